import PyProof.Rows.All
import Wide.All
import OpenK.AllK
import Wide.FinOn
import HandS.ForMost
import HandS.NoneIn
import HandS.Style
import HandS.IsInst
import HandS.Gcd
import HandS.Defaults
import HandS.Wide
import KE.DataMinMax
import KE.KMathG
import PyProof.RulesMatch
import Flt.RightSqrt
import PySem.Challenge.RW_wholeconic_k15_whole_alike_exactly
import KE.KStateDown
import HandS.Head0
import HandS.Head1
import HandS.Head2
import HandS.Head3
import HandS.HeadEnd
import HandS.HeadHook1
import HandS.HeadHook2
set_option Elab.async false
set_option linter.all false
set_option maxRecDepth 100000
-- Kx
set_option maxHeartbeats 2000000
/-! The data layer: judgements over data (PyData) in place of addresses. -/
namespace Kx
open PySem PySem.Spec PyProof.Rows L2
abbrev Fg := PySem.W.Frag
abbrev OS := Option (List PyData)

/-! ### data and growing heaps -/
theorem same_tup {K : Fg} {H H' : Hp} {a : Addr} {xs : List V} (e : Same H H') (h : SqT K H a xs) : SqT K H' a xs := by
  rcases h with (h | ⟨o, h⟩) | h
  · exact .inl (.inl (e _ _ h))
  · exact .inl (.inr ⟨o, e _ _ h⟩)
  · exact .inr h
mutual
theorem dp_up {K : Fg} {H H' : Hp} (e : Same H H') : ∀ {v : V} {d : PyData}, Dp K H v d → Dp K H' v d
  | _, _, .non => .non
  | _, _, .bl b => .bl b
  | _, _, .int i => .int i
  | _, _, .str x => .str x
  | _, _, .lst h a => .lst (e.seq h) (dpa_up e a)
  | _, _, .tup h a => .tup (same_tup e h) (dpa_up e a)
theorem dpa_up {K : Fg} {H H' : Hp} (e : Same H H') : ∀ {vs : List V} {ds : List PyData}, DpAll K H vs ds → DpAll K H' vs ds
  | _, _, .nil => .nil
  | _, _, .cons h a => .cons (dp_up e h) (dpa_up e a)
end
theorem dp_int {K : Fg} {H : Hp} {v : V} {i : Int} (h : Dp K H v (.int i)) : v = .int i := by cases h; rfl
theorem dp_bl {K : Fg} {H : Hp} {v : V} {b : Bool} (h : Dp K H v (.bool b)) : v = .bl b := by cases h; rfl
theorem dp_str {K : Fg} {H : Hp} {v : V} {z : Str} (h : Dp K H v (.str z)) : v = .str z := by cases h; rfl
theorem dp_non {K : Fg} {H : Hp} {v : V} (h : Dp K H v .none) : v = .non := by cases h; rfl
theorem dp_tup {K : Fg} {H : Hp} {v : V} {ds : List PyData} (h : Dp K H v (.tuple ds)) : ∃ a xs, v = .ref a ∧ SqT K H a xs ∧ DpAll K H xs ds := by
  cases h with
  | tup h a => exact ⟨_, _, rfl, h, a⟩
theorem dp_lst {K : Fg} {H : Hp} {v : V} {ds : List PyData} (h : Dp K H v (.list ds)) : ∃ a xs, v = .ref a ∧ SqL K H a xs ∧ DpAll K H xs ds := by
  cases h with
  | lst h a => exact ⟨_, _, rfl, h, a⟩
theorem dpa_len {K : Fg} {H : Hp} : ∀ {vs : List V} {ds : List PyData}, DpAll K H vs ds → vs.length = ds.length
  | _, _, .nil => rfl
  | _, _, .cons _ a => congrArg (· + 1) (dpa_len a)
theorem dpa_get {K : Fg} {H : Hp} : ∀ {vs : List V} {ds : List PyData} {i : Nat} {d : PyData}, DpAll K H vs ds → ds[i]? = some d → ∃ v, vs[i]? = some v ∧ Dp K H v d
  | _, _, _, _, .nil, e => by simp at e
  | _, _, 0, _, .cons h _, e => by
    have e2 := Option.some.inj (show some _ = some _ from e)
    subst e2
    exact ⟨_, rfl, h⟩
  | _, _, i + 1, d, .cons _ a, e => by
    obtain ⟨v, h1, h2⟩ := dpa_get (i := i) (d := d) a (by simpa using e)
    exact ⟨v, by simpa using h1, h2⟩
theorem dpa_of {K : Fg} {H : Hp} : ∀ {vs : List V} {ds : List PyData} {i : Nat} {v : V}, DpAll K H vs ds → vs[i]? = some v → ∃ d, ds[i]? = some d ∧ Dp K H v d
  | _, _, _, _, .nil, e => by simp at e
  | _, _, 0, _, .cons h _, e => by
    have e2 := Option.some.inj (show some _ = some _ from e)
    subst e2
    exact ⟨_, rfl, h⟩
  | _, _, i + 1, v, .cons _ a, e => by
    obtain ⟨d, h1, h2⟩ := dpa_of (i := i) (v := v) a (by simpa using e)
    exact ⟨d, by simpa using h1, h2⟩
theorem dpa_app {K : Fg} {H : Hp} : ∀ {vs : List V} {ds : List PyData} {ws : List V} {es : List PyData}, DpAll K H vs ds → DpAll K H ws es → DpAll K H (vs ++ ws) (ds ++ es)
  | _, _, _, _, .nil, h => h
  | _, _, _, _, .cons h a, k => .cons h (dpa_app a k)
theorem dpa_take {K : Fg} {H : Hp} : ∀ {vs : List V} {ds : List PyData} (n : Nat), DpAll K H vs ds → DpAll K H (vs.take n) (ds.take n)
  | _, _, 0, _ => .nil
  | _, _, _ + 1, .nil => .nil
  | _, _, n + 1, .cons h a => .cons h (dpa_take n a)
theorem dpa_drop {K : Fg} {H : Hp} : ∀ {vs : List V} {ds : List PyData} (n : Nat), DpAll K H vs ds → DpAll K H (vs.drop n) (ds.drop n)
  | _, _, 0, h => h
  | _, _, _ + 1, .nil => .nil
  | _, _, n + 1, .cons _ a => dpa_drop n a
theorem dpa_set {K : Fg} {H : Hp} {v : V} {d : PyData} (hv : Dp K H v d) : ∀ {vs : List V} {ds : List PyData} (n : Nat), DpAll K H vs ds → DpAll K H (vs.set n v) (ds.set n d)
  | _, _, _, .nil => .nil
  | _, _, 0, .cons _ a => .cons hv a
  | _, _, n + 1, .cons h a => .cons h (dpa_set hv n a)
theorem dpa_at {K : Fg} {H : Hp} {vs : List V} {ds : List PyData} {i : Int} {d : PyData} (h : DpAll K H vs ds) (e : atI ds i = some d) : ∃ v, atI vs i = some v ∧ Dp K H v d := by
  unfold atI at e ⊢
  rw [dpa_len h]
  cases q : ixN ds.length i with
  | none =>
    rw [q] at e
    cases e
  | some j =>
    rw [q] at e
    exact dpa_get h e

/-! ### slots -/
inductive Sl where
  | no | own | d (x : PyData)
def SlOk (K : Fg) (F : Hp) (l : Addr) : Sl → Option V → Prop
  | .no, _ => True
  | .own, o => o = some (.ref l)
  | .d x, o => ∃ v, o = some v ∧ Dp K F v x
def Sat (K : Fg) (F : Hp) (l : Addr) (σ : L2.St) (env : List Sl) : Prop := σ.length = env.length ∧ ∀ (i : Nat) (s : Sl), env[i]? = some s → ∃ o, σ[i]? = some o ∧ SlOk K F l s o
theorem slok_up {K : Fg} {F F' : Hp} {l : Addr} (e : Same F F') {s : Sl} {o : Option V} (h : SlOk K F l s o) : SlOk K F' l s o := by
  cases s with
  | no => trivial
  | own => exact h
  | d x =>
    obtain ⟨v, h1, h2⟩ := h
    exact ⟨v, h1, dp_up e h2⟩
theorem sat_up {K : Fg} {F F' : Hp} {l : Addr} {σ : L2.St} {env : List Sl} (e : Same F F') (h : Sat K F l σ env) : Sat K F' l σ env :=
  ⟨h.1, fun i s q => let ⟨o, a, b⟩ := h.2 i s q; ⟨o, a, slok_up e b⟩⟩
theorem sat_set {K : Fg} {F : Hp} {l : Addr} {σ : L2.St} {env : List Sl} {o : Option V} {s : Sl} (h : Sat K F l σ env) (hs : SlOk K F l s o) (i : Nat) : Sat K F l (σ.set i o) (env.set i s) := by
  refine ⟨by rw [List.length_set, List.length_set]; exact h.1, fun j t q => ?_⟩
  by_cases e : i = j
  · subst e
    by_cases hi : i < env.length
    · rw [List.getElem?_set_self hi] at q
      cases q
      exact ⟨o, List.getElem?_set_self (by rw [h.1]; exact hi), hs⟩
    · rw [List.getElem?_eq_none (by rw [List.length_set]; omega)] at q
      cases q
  · rw [List.getElem?_set_ne e] at q
    obtain ⟨p, a, b⟩ := h.2 j t q
    exact ⟨p, by rw [List.getElem?_set_ne e]; exact a, b⟩
def noOwn : List Sl → Bool
  | [] => true
  | .own :: _ => false
  | _ :: r => noOwn r
theorem slok_l {K : Fg} {F : Hp} {l l' : Addr} {s : Sl} {o : Option V} (hs : s ≠ .own) (h : SlOk K F l s o) : SlOk K F l' s o := by
  cases s with
  | no => trivial
  | own => exact absurd rfl hs
  | d x => exact h
theorem noOwn_get : ∀ {env : List Sl} {i : Nat} {s : Sl}, noOwn env = true → env[i]? = some s → s ≠ .own
  | [], _, _, _, e => by simp at e
  | .own :: _, _, _, h, _ => by cases h
  | .no :: r, 0, s, _, e => by
    have e2 := Option.some.inj (show some _ = some _ from e)
    subst e2
    exact fun z => nomatch z
  | .d x :: r, 0, s, _, e => by
    have e2 := Option.some.inj (show some _ = some _ from e)
    subst e2
    exact fun z => nomatch z
  | .no :: r, i + 1, s, h, e => noOwn_get (env := r) (i := i) h (by simpa using e)
  | .d x :: r, i + 1, s, h, e => noOwn_get (env := r) (i := i) h (by simpa using e)
theorem sat_l {K : Fg} {F : Hp} {l l' : Addr} {σ : L2.St} {env : List Sl} (hn : noOwn env = true) (h : Sat K F l σ env) : Sat K F l' σ env :=
  ⟨h.1, fun i s q => let ⟨o, a, b⟩ := h.2 i s q; ⟨o, a, slok_l (noOwn_get hn q) b⟩⟩

/-! ### a configuration: F what is known and stays, B what stood at the entry and is kept, l the one list of our own (o what it holds) -/
structure Cf (K : Fg) (F0 B : Hp) (l0 : Option Addr) (F H : Hp) (l : Addr) (o : OS) (σ : L2.St) (env : List Sl) : Prop where
  ff : Same F0 F
  bh : Same B H
  fh : Same F H
  nw : ∀ a u, F a = some u → F0 a = some u ∨ B a = none
  sat : Sat K F l σ env
  own : ∀ ds, o = some ds → F l = none ∧ B l = none ∧ ∃ xs, H l = some (.lst xs) ∧ DpAll K F xs ds
  fx : ∀ a, l0 = some a → l = a
section
variable {K : Fg} {F0 B : Hp} {l0 : Option Addr} {F H : Hp} {l : Addr} {o : OS} {σ : L2.St} {env : List Sl}
theorem same_new {H : Hp} {p : Addr} {u : HO} (h : H p = none) : Same H (upd H p u) := fun b x e => by
  rw [upd_ne (ne_of_none e h)]
  exact e
theorem same_upd {F H : Hp} {p : Addr} {u : HO} (h : Same F H) : Same (upd F p u) (upd H p u) := fun b x e => by
  by_cases q : b = p
  · subst q
    rw [upd_same] at e ⊢
    exact e
  · rw [upd_ne q] at e ⊢
    exact h b x e
theorem same_none {F H : Hp} {p : Addr} (h : Same F H) (e : H p = none) : F p = none := h.free e
/-- a new object is laid -/
theorem Cf.new (c : Cf K F0 B l0 F H l o σ env) {p : Addr} (u : HO) (h : H p = none) : Cf K F0 B l0 (upd F p u) (upd H p u) l o σ env where
  ff := c.ff.trans (same_new (same_none c.fh h))
  bh := c.bh.trans (same_new h)
  fh := same_upd c.fh
  nw := fun a x e => by
    by_cases q : a = p
    · subst q
      exact .inr (same_none c.bh h)
    · rw [upd_ne q] at e
      exact c.nw a x e
  sat := sat_up (same_new (same_none c.fh h)) c.sat
  own := fun ds e => by
    obtain ⟨h1, h2, xs, h3, h4⟩ := c.own ds e
    have ne : l ≠ p := ne_of_none h3 h
    exact ⟨by rw [upd_ne ne]; exact h1, h2, xs, by rw [upd_ne ne]; exact h3, dpa_up (same_new (same_none c.fh h)) h4⟩
  fx := c.fx
/-- F and H grow together -/
theorem Cf.grow (c : Cf K F0 B l0 F H l o σ env) {F2 H2 : Hp} (h1 : Same H H2) (h2 : Same F F2) (h3 : Same F2 H2) (h4 : ∀ a u, F2 a = some u → F a = some u ∨ H a = none) : Cf K F0 B l0 F2 H2 l o σ env where
  ff := c.ff.trans h2
  bh := c.bh.trans h1
  fh := h3
  nw := fun a u e => by
    rcases h4 a u e with q | q
    · exact c.nw a u q
    · exact .inr (same_none c.bh q)
  sat := sat_up h2 c.sat
  own := fun ds e => by
    obtain ⟨k1, k2, xs, k3, k4⟩ := c.own ds e
    refine ⟨?_, k2, xs, h1 _ _ k3, dpa_up h2 k4⟩
    cases q : F2 l with
    | none => rfl
    | some u =>
      rcases h4 l u q with z | z
      · rw [k1] at z
        cases z
      · rw [k3] at z
        cases z
  fx := c.fx
theorem Cf.set (c : Cf K F0 B l0 F H l o σ env) {v : V} {d : PyData} (h : Dp K F v d) (i : Nat) : Cf K F0 B l0 F H l o (σ.set i (some v)) (env.set i (.d d)) :=
  ⟨c.ff, c.bh, c.fh, c.nw, sat_set (s := .d d) (o := some v) c.sat ⟨v, rfl, h⟩ i, c.own, c.fx⟩
theorem Cf.get (c : Cf K F0 B l0 F H l o σ env) {i : Nat} {d : PyData} (h : env[i]? = some (.d d)) : ∃ v, σ[i]? = some (some v) ∧ Dp K F v d := by
  obtain ⟨p, a, v, e, b⟩ := c.sat.2 i _ h
  subst e
  exact ⟨v, a, b⟩
theorem Cf.getOwn (c : Cf K F0 B l0 F H l o σ env) {i : Nat} (h : env[i]? = some .own) : σ[i]? = some (some (.ref l)) := by
  obtain ⟨p, a, e⟩ := c.sat.2 i _ h
  rw [a]
  exact congrArg some e
/-- our own list is changed -/
theorem Cf.put (c : Cf K F0 B l0 F H l o σ env) {ds es : List PyData} {ys : List V} (ho : o = some ds) (h : DpAll K F ys es) : Cf K F0 B l0 F (upd H l (.lst ys)) l (some es) σ env := by
  obtain ⟨k1, k2, xs, k3, k4⟩ := c.own ds ho
  have nb : ∀ {G : Hp} {a : Addr} {u : HO}, G l = none → G a = some u → a ≠ l := fun h1 h2 e => by
    subst e
    rw [h1] at h2
    cases h2
  refine ⟨c.ff, fun a u e => ?_, fun a u e => ?_, c.nw, c.sat, fun es' e => ?_, c.fx⟩
  · rw [upd_ne (nb k2 e)]
    exact c.bh a u e
  · rw [upd_ne (nb k1 e)]
    exact c.fh a u e
  · cases e
    exact ⟨k1, k2, ys, upd_same, h⟩
/-- a new list becomes our own -/
theorem Cf.owned (c : Cf K F0 B none F H l none σ env) {p : Addr} (hn : noOwn env = true) (h : H p = none) : Cf K F0 B none F (upd H p (.lst [])) p (some []) σ env :=
  ⟨c.ff, c.bh.trans (same_new h), c.fh.trans (same_new h), c.nw, sat_l hn c.sat, fun ds e => by
    cases e
    exact ⟨same_none c.fh h, same_none c.bh h, [], upd_same, .nil⟩, fun _ e => nomatch e⟩
/-- our own list is given out -/
theorem Cf.give (c : Cf K F0 B l0 F H l o σ env) {ds : List PyData} (ho : o = some ds) : ∃ F2, Same F F2 ∧ Dp K F2 (.ref l) (.list ds) ∧ Cf K F0 B l0 F2 H l none σ env := by
  obtain ⟨k1, k2, xs, k3, k4⟩ := c.own ds ho
  refine ⟨upd F l (.lst xs), same_new k1, .lst (SqL.of upd_same) (dpa_up (same_new k1) k4), c.ff.trans (same_new k1), c.bh, fun a u e => ?_, fun a u e => ?_, sat_up (same_new k1) c.sat, (fun _ e => nomatch e), c.fx⟩
  · by_cases q : a = l
    · subst q
      rw [upd_same] at e
      rw [k3]
      exact e
    · rw [upd_ne q] at e
      exact c.fh a u e
  · by_cases q : a = l
    · subst q
      exact .inr k2
    · rw [upd_ne q] at e
      exact c.nw a u e
end

/-! ### expressions -/
/-- in env, with our own list holding o: the value is a datum d, the list holds o2 behind it, R d o2 -/
def EvR (K : Fg) (te : TE) (env : List Sl) (o : OS) (R : PyData → OS → Prop) : Prop :=
  ∀ (F0 B : Hp) (l0 : Option Addr) (F H : Hp) (l : Addr) (σ : L2.St), Cf K F0 B l0 F H l o σ env → ∀ Q : VK,
    (∀ (v : V) (F2 H2 : Hp) (d : PyData) (o2 : OS), R d o2 → Cf K F0 B l0 F2 H2 l o2 σ env → Same F F2 → Dp K F2 v d → Q v H2) → te σ H Q
def EvD (K : Fg) (te : TE) (env : List Sl) (o : OS) (d : PyData) : Prop :=
  ∀ (F0 B : Hp) (l0 : Option Addr) (F H : Hp) (l : Addr) (σ : L2.St), Cf K F0 B l0 F H l o σ env → ∀ Q : VK,
    (∀ (v : V) (F2 H2 : Hp), Cf K F0 B l0 F2 H2 l o σ env → Same F F2 → Dp K F2 v d → Q v H2) → te σ H Q
def EvT (K : Fg) (tt : TT) (env : List Sl) (o : OS) (b : Bool) : Prop :=
  ∀ (F0 B : Hp) (l0 : Option Addr) (F H : Hp) (l : Addr) (σ : L2.St), Cf K F0 B l0 F H l o σ env → ∀ Q : Bool → Hp → Prop,
    (∀ (F2 H2 : Hp), Cf K F0 B l0 F2 H2 l o σ env → Same F F2 → Q b H2) → tt σ H Q
def EvA (K : Fg) (ta : TA) (env : List Sl) (o : OS) (ds : List PyData) : Prop :=
  ∀ (F0 B : Hp) (l0 : Option Addr) (F H : Hp) (l : Addr) (σ : L2.St), Cf K F0 B l0 F H l o σ env → ∀ Q : List V → Hp → Prop,
    (∀ (vs : List V) (F2 H2 : Hp), Cf K F0 B l0 F2 H2 l o σ env → Same F F2 → DpAll K F2 vs ds → Q vs H2) → ta σ H Q
/-- arguments whose making may change our own list -/
def EvAR (K : Fg) (ta : TA) (env : List Sl) (o : OS) (R : List PyData → OS → Prop) : Prop :=
  ∀ (F0 B : Hp) (l0 : Option Addr) (F H : Hp) (l : Addr) (σ : L2.St), Cf K F0 B l0 F H l o σ env → ∀ Q : List V → Hp → Prop,
    (∀ (vs : List V) (F2 H2 : Hp) (ds : List PyData) (o2 : OS), R ds o2 → Cf K F0 B l0 F2 H2 l o2 σ env → Same F F2 → DpAll K F2 vs ds → Q vs H2) → ta σ H Q
/-- what is laid by an operation: nothing, or one new object -/
def Lay (F H F2 H2 : Hp) : Prop := (F2 = F ∧ H2 = H) ∨ ∃ (p : Addr) (u : HO), H p = none ∧ F2 = upd F p u ∧ H2 = upd H p u
theorem Lay.cf {K : Fg} {F0 B : Hp} {l0 : Option Addr} {F H F2 H2 : Hp} {l : Addr} {o : OS} {σ : L2.St} {env : List Sl} (h : Lay F H F2 H2) (c : Cf K F0 B l0 F H l o σ env) : Cf K F0 B l0 F2 H2 l o σ env ∧ Same F F2 := by
  rcases h with ⟨rfl, rfl⟩ | ⟨p, u, h, rfl, rfl⟩
  · exact ⟨c, Same.refl _⟩
  · exact ⟨c.new u h, same_new (same_none c.fh h)⟩
def RvD (K : Fg) (r : R2) (x y z : PyData) : Prop := ∀ (F H : Hp) (v u : V), Same F H → Dp K F v x → Dp K F u y → ∀ Q : VK, (∀ (w : V) (F2 H2 : Hp), Lay F H F2 H2 → Dp K F2 w z → Q w H2) → r v u H Q
def RuD (K : Fg) (r : V → Hp → VK → Prop) (x z : PyData) : Prop := ∀ (F H : Hp) (v : V), Same F H → Dp K F v x → ∀ Q : VK, (∀ (w : V) (F2 H2 : Hp), Lay F H F2 H2 → Dp K F2 w z → Q w H2) → r v H Q
def RcD (K : Fg) (r : List V → Hp → VK → Prop) (ds : List PyData) (z : PyData) : Prop := ∀ (F H : Hp) (vs : List V), Same F H → DpAll K F vs ds → ∀ Q : VK, (∀ (w : V) (F2 H2 : Hp), Lay F H F2 H2 → Dp K F2 w z → Q w H2) → r vs H Q
section
variable {K : Fg} {env : List Sl} {o : OS} {ta tb te : TE} {tt tu : TT} {x y z d : PyData} {r : R2} {R : PyData → OS → Prop}
theorem EvD.toR (h : EvD K te env o d) (hr : R d o) : EvR K te env o R := fun F0 B l0 F H l σ c Q q => h F0 B l0 F H l σ c Q fun v F2 H2 c2 e dp => q v F2 H2 d o hr c2 e dp
theorem EvR.toD (h : EvR K te env o fun d' o' => d' = d ∧ o' = o) : EvD K te env o d := fun F0 B l0 F H l σ c Q q => h F0 B l0 F H l σ c Q fun v F2 H2 d' o' hr c2 e dp => by
  obtain ⟨rfl, rfl⟩ := hr
  exact q v F2 H2 c2 e dp
theorem EvR.imp {R' : PyData → OS → Prop} (h : EvR K te env o R) (hi : ∀ d o, R d o → R' d o) : EvR K te env o R' := fun F0 B l0 F H l σ c Q q => h F0 B l0 F H l σ c Q fun v F2 H2 d o2 hr c2 e dp => q v F2 H2 d o2 (hi d o2 hr) c2 e dp
theorem EvD.is (h : EvD K te env o x) (e : x = y) : EvD K te env o y := e ▸ h
theorem EvT.is {a b : Bool} (h : EvT K tt env o a) (e : a = b) : EvT K tt env o b := e ▸ h
theorem ev_var {i : Nat} (h : env[i]? = some (.d d)) : EvD K (tVar i) env o d := fun _ _ _ F H _ σ c _ q => by
  obtain ⟨v, e, dp⟩ := c.get h
  exact ⟨v, e, q v F H c (Same.refl _) dp⟩
theorem ev_int {i : Int} : EvD K (tC (.int i)) env o (.int i) := fun _ _ _ F H _ _ c _ q => q _ F H c (Same.refl _) (.int i)
theorem ev_bl {b : Bool} : EvD K (tC (.bl b)) env o (.bool b) := fun _ _ _ F H _ _ c _ q => q _ F H c (Same.refl _) (.bl b)
theorem ev_str {b : Str} : EvD K (tC (.str b)) env o (.str b) := fun _ _ _ F H _ _ c _ q => q _ F H c (Same.refl _) (.str b)
theorem ev_non : EvD K (tC .non) env o .none := fun _ _ _ F H _ _ c _ q => q _ F H c (Same.refl _) .non
/-- a constant of the module: a tuple that stands -/
theorem ev_con {a : Addr} {xs : List V} {ds : List PyData} (h : ∀ H : Hp, SqT K H a xs) (hd : ∀ H : Hp, DpAll K H xs ds) : EvD K (tC (.ref a)) env o (.tuple ds) := fun _ _ _ F H _ _ c _ q => q _ F H c (Same.refl _) (.tup (h F) (hd F))
theorem ev_op (ha : EvD K ta env o x) (hb : EvD K tb env o y) (hr : RvD K r x y z) : EvD K (tOp r ta tb) env o z := fun F0 B l0 F H l σ c Q q =>
  ha F0 B l0 F H l σ c _ fun v F2 H2 c2 e2 d2 => hb F0 B l0 F2 H2 l σ c2 _ fun u F3 H3 c3 e3 d3 => hr F3 H3 v u c3.fh (dp_up e3 d2) d3 Q fun w F4 H4 ly d4 =>
    let ⟨c4, e4⟩ := ly.cf c3
    q w F4 H4 c4 ((e2.trans e3).trans e4) d4
theorem er_op (ha : EvR K ta env o fun x o1 => EvR K tb env o1 fun y o2 => ∃ z, RvD K r x y z ∧ R z o2) : EvR K (tOp r ta tb) env o R := fun F0 B l0 F H l σ c Q q =>
  ha F0 B l0 F H l σ c _ fun v F2 H2 x o1 h1 c2 e2 d2 => h1 F0 B l0 F2 H2 l σ c2 _ fun u F3 H3 y o2 ⟨z, hr, hR⟩ c3 e3 d3 => hr F3 H3 v u c3.fh (dp_up e3 d2) d3 Q fun w F4 H4 ly d4 =>
    let ⟨c4, e4⟩ := ly.cf c3
    q w F4 H4 z o2 hR c4 ((e2.trans e3).trans e4) d4
theorem ev_un {r : V → Hp → VK → Prop} (ha : EvD K ta env o x) (hr : RuD K r x z) : EvD K (tUn r ta) env o z := fun F0 B l0 F H l σ c Q q =>
  ha F0 B l0 F H l σ c _ fun v F2 H2 c2 e2 d2 => hr F2 H2 v c2.fh d2 Q fun w F4 H4 ly d4 =>
    let ⟨c4, e4⟩ := ly.cf c2
    q w F4 H4 c4 (e2.trans e4) d4
theorem er_un {r : V → Hp → VK → Prop} (ha : EvR K ta env o fun x o1 => ∃ z, RuD K r x z ∧ R z o1) : EvR K (tUn r ta) env o R := fun F0 B l0 F H l σ c Q q =>
  ha F0 B l0 F H l σ c _ fun v F2 H2 x o1 ⟨z, hr, hR⟩ c2 e2 d2 => hr F2 H2 v c2.fh d2 Q fun w F4 H4 ly d4 =>
    let ⟨c4, e4⟩ := ly.cf c2
    q w F4 H4 z o1 hR c4 (e2.trans e4) d4
theorem ea_nil : EvA K tNil env o [] := fun _ _ _ F H _ _ c _ q => q [] F H c (Same.refl _) .nil
theorem ea_cons {tr : TA} {ds : List PyData} (ha : EvD K ta env o x) (hr : EvA K tr env o ds) : EvA K (tCons ta tr) env o (x :: ds) := fun F0 B l0 F H l σ c Q q =>
  ha F0 B l0 F H l σ c _ fun v F2 H2 c2 e2 d2 => hr F0 B l0 F2 H2 l σ c2 _ fun vs F3 H3 c3 e3 d3 => q (v :: vs) F3 H3 c3 (e2.trans e3) (.cons (dp_up e3 d2) d3)
theorem ear_nil {R : List PyData → OS → Prop} (h : R [] o) : EvAR K tNil env o R := fun _ _ _ F H _ _ c _ q => q [] F H [] o h c (Same.refl _) .nil
theorem ear_cons {tr : TA} {R : List PyData → OS → Prop} (ha : EvR K ta env o fun x o1 => EvAR K tr env o1 fun ds o2 => R (x :: ds) o2) : EvAR K (tCons ta tr) env o R := fun F0 B l0 F H l σ c Q q =>
  ha F0 B l0 F H l σ c _ fun v F2 H2 x o1 h1 c2 e2 d2 => h1 F0 B l0 F2 H2 l σ c2 _ fun vs F3 H3 ds o2 hR c3 e3 d3 => q (v :: vs) F3 H3 (x :: ds) o2 hR c3 (e2.trans e3) (.cons (dp_up e3 d2) d3)
theorem sz_of {n : Nat} (h : n ≤ 100000) : n ≤ sizeLine := Nat.le_trans h (by decide)
theorem sz_lt {n : Nat} (h : n < 100000) : n < sizeLine := Nat.lt_of_lt_of_le h (by decide)
theorem ev_tup {ta : TA} {ds : List PyData} (h : EvA K ta env o ds) (hl : ds.length ≤ 100000) : EvD K (tTup ta) env o (.tuple ds) := fun F0 B l0 F H l σ c Q q =>
  h F0 B l0 F H l σ c _ fun vs F2 H2 c2 e2 d2 => ⟨sz_of (by rw [dpa_len d2]; exact hl), fun p hp => q (.ref p) _ _ (c2.new (.tup vs) hp) (e2.trans (same_new (same_none c2.fh hp))) (.tup (SqT.of upd_same) (dpa_up (same_new (same_none c2.fh hp)) d2))⟩
theorem ev_lst {ta : TA} {ds : List PyData} (h : EvA K ta env o ds) (hl : ds.length ≤ 100000) : EvD K (tLst ta) env o (.list ds) := fun F0 B l0 F H l σ c Q q =>
  h F0 B l0 F H l σ c _ fun vs F2 H2 c2 e2 d2 => ⟨sz_of (by rw [dpa_len d2]; exact hl), fun p hp => q (.ref p) _ _ (c2.new (.lst vs) hp) (e2.trans (same_new (same_none c2.fh hp))) (.lst (SqL.of upd_same) (dpa_up (same_new (same_none c2.fh hp)) d2))⟩
theorem er_tup {ta : TA} (h : EvAR K ta env o fun ds o2 => ds.length ≤ 100000 ∧ R (.tuple ds) o2) : EvR K (tTup ta) env o R := fun F0 B l0 F H l σ c Q q =>
  h F0 B l0 F H l σ c _ fun vs F2 H2 ds o2 hR c2 e2 d2 => ⟨sz_of (by rw [dpa_len d2]; exact hR.1), fun p hp => q (.ref p) _ _ (.tuple ds) o2 hR.2 (c2.new (.tup vs) hp) (e2.trans (same_new (same_none c2.fh hp))) (.tup (SqT.of upd_same) (dpa_up (same_new (same_none c2.fh hp)) d2))⟩
theorem er_lst {ta : TA} (h : EvAR K ta env o fun ds o2 => ds.length ≤ 100000 ∧ R (.list ds) o2) : EvR K (tLst ta) env o R := fun F0 B l0 F H l σ c Q q =>
  h F0 B l0 F H l σ c _ fun vs F2 H2 ds o2 hR c2 e2 d2 => ⟨sz_of (by rw [dpa_len d2]; exact hR.1), fun p hp => q (.ref p) _ _ (.list ds) o2 hR.2 (c2.new (.lst vs) hp) (e2.trans (same_new (same_none c2.fh hp))) (.lst (SqL.of upd_same) (dpa_up (same_new (same_none c2.fh hp)) d2))⟩
theorem ev_cb {r : List V → Hp → VK → Prop} {ta : TA} {ds : List PyData} (h : EvA K ta env o ds) (hr : RcD K r ds z) : EvD K (tCB r ta) env o z := fun F0 B l0 F H l σ c Q q =>
  h F0 B l0 F H l σ c _ fun vs F2 H2 c2 e2 d2 => hr F2 H2 vs c2.fh d2 Q fun w F3 H3 ly d3 =>
    let ⟨c3, e3⟩ := ly.cf c2
    q w F3 H3 c3 (e2.trans e3) d3
theorem er_cb {r : List V → Hp → VK → Prop} {ta : TA} (h : EvAR K ta env o fun ds o2 => ∃ z, RcD K r ds z ∧ R z o2) : EvR K (tCB r ta) env o R := fun F0 B l0 F H l σ c Q q =>
  h F0 B l0 F H l σ c _ fun vs F2 H2 ds o2 ⟨z, hr, hR⟩ c2 e2 d2 => hr F2 H2 vs c2.fh d2 Q fun w F3 H3 ly d3 =>
    let ⟨c3, e3⟩ := ly.cf c2
    q w F3 H3 z o2 hR c3 (e2.trans e3) d3

/-! ### tests -/
theorem et_test {b : Bool} (h : EvD K te env o (.bool b)) : EvT K (tTest te) env o b := fun F0 B l0 F H l σ c _ q => h F0 B l0 F H l σ c _ fun v F2 H2 c2 e2 d2 => ⟨b, dp_bl d2, q F2 H2 c2 e2⟩
theorem et_B {b : Bool} (h : EvD K te env o (.bool b)) : EvT K (tB te) env o b := fun F0 B l0 F H l σ c _ q => h F0 B l0 F H l σ c _ fun v F2 H2 c2 e2 d2 => ⟨b, dp_bl d2, q F2 H2 c2 e2⟩
theorem et_and {a b : Bool} (h1 : EvT K tt env o a) (h2 : a = true → EvT K tu env o b) : EvT K (tAnd tt tu) env o (a && b) := fun F0 B l0 F H l σ c Q q => h1 F0 B l0 F H l σ c _ fun F2 H2 c2 e2 => by
  cases a with
  | true =>
    show tu σ H2 Q
    exact h2 rfl F0 B l0 F2 H2 l σ c2 Q fun F3 H3 c3 e3 => q F3 H3 c3 (e2.trans e3)
  | false =>
    show Q false H2
    exact q F2 H2 c2 e2
theorem et_or {a b : Bool} (h1 : EvT K tt env o a) (h2 : a = false → EvT K tu env o b) : EvT K (tOr tt tu) env o (a || b) := fun F0 B l0 F H l σ c Q q => h1 F0 B l0 F H l σ c _ fun F2 H2 c2 e2 => by
  cases a with
  | true =>
    show Q true H2
    exact q F2 H2 c2 e2
  | false =>
    show tu σ H2 Q
    exact h2 rfl F0 B l0 F2 H2 l σ c2 Q fun F3 H3 c3 e3 => q F3 H3 c3 (e2.trans e3)
theorem et_not {a : Bool} (h1 : EvT K tt env o a) : EvT K (tNot tt) env o (!a) := fun F0 B l0 F H l σ c _ q => h1 F0 B l0 F H l σ c _ fun F2 H2 c2 e2 => q F2 H2 c2 e2
theorem ev_andV {a b : Bool} (h1 : EvD K ta env o (.bool a)) (h2 : a = true → EvD K tb env o (.bool b)) : EvD K (tAndV ta tb) env o (.bool (a && b)) := fun F0 B l0 F H l σ c Q q => h1 F0 B l0 F H l σ c _ fun v F2 H2 c2 e2 d2 => ⟨a, dp_bl d2, by
  cases a with
  | true =>
    show tb σ H2 Q
    exact h2 rfl F0 B l0 F2 H2 l σ c2 Q fun w F3 H3 c3 e3 d3 => q w F3 H3 c3 (e2.trans e3) d3
  | false =>
    show Q (.bl false) H2
    exact q _ F2 H2 c2 e2 (.bl false)⟩
theorem ev_orV {a b : Bool} (h1 : EvD K ta env o (.bool a)) (h2 : a = false → EvD K tb env o (.bool b)) : EvD K (tOrV ta tb) env o (.bool (a || b)) := fun F0 B l0 F H l σ c Q q => h1 F0 B l0 F H l σ c _ fun v F2 H2 c2 e2 d2 => ⟨a, dp_bl d2, by
  cases a with
  | true =>
    show Q (.bl true) H2
    exact q _ F2 H2 c2 e2 (.bl true)
  | false =>
    show tb σ H2 Q
    exact h2 rfl F0 B l0 F2 H2 l σ c2 Q fun w F3 H3 c3 e3 d3 => q w F3 H3 c3 (e2.trans e3) d3⟩
theorem ev_notV {a : Bool} (h1 : EvD K ta env o (.bool a)) : EvD K (tNotV ta) env o (.bool (!a)) := fun F0 B l0 F H l σ c _ q => h1 F0 B l0 F H l σ c _ fun v F2 H2 c2 e2 d2 => ⟨a, dp_bl d2, q _ F2 H2 c2 e2 (.bl _)⟩
theorem ev_if {b : Bool} (h : EvT K tt env o b) (h1 : b = true → EvD K ta env o d) (h2 : b = false → EvD K tb env o d) : EvD K (tIf tt ta tb) env o d := fun F0 B l0 F H l σ c Q q => h F0 B l0 F H l σ c _ fun F2 H2 c2 e2 => by
  cases b with
  | true =>
    show ta σ H2 Q
    exact h1 rfl F0 B l0 F2 H2 l σ c2 Q fun w F3 H3 c3 e3 d3 => q w F3 H3 c3 (e2.trans e3) d3
  | false =>
    show tb σ H2 Q
    exact h2 rfl F0 B l0 F2 H2 l σ c2 Q fun w F3 H3 c3 e3 d3 => q w F3 H3 c3 (e2.trans e3) d3

/-! ### chains of comparisons -/
theorem ev_chain {r r' : R2} {tc : TE} {a b : Bool} {w : PyData} (ha : EvD K ta env o x) (hb : EvD K tb env o y) (h1 : RvD K r x y (.bool a)) (hc : a = true → EvD K tc env o w) (h2 : a = true → RvD K r' y w (.bool b)) : EvD K (tChain r r' ta tb tc) env o (.bool (a && b)) := fun F0 B l0 F H l σ c Q q =>
  ha F0 B l0 F H l σ c _ fun v F2 H2 c2 e2 d2 => hb F0 B l0 F2 H2 l σ c2 _ fun u F3 H3 c3 e3 d3 => h1 F3 H3 v u c3.fh (dp_up e3 d2) d3 _ fun z F4 H4 ly d4 => ⟨a, dp_bl d4, by
    obtain ⟨c4, e4⟩ := ly.cf c3
    cases a with
    | true =>
      show tc σ H4 fun w' H5 => r' u w' H5 Q
      exact hc rfl F0 B l0 F4 H4 l σ c4 _ fun w' F5 H5 c5 e5 d5 => h2 rfl F5 H5 u w' c5.fh (dp_up (e4.trans e5) d3) d5 Q fun z2 F6 H6 ly6 d6 =>
        let ⟨c6, e6⟩ := ly6.cf c5
        q z2 F6 H6 c6 ((((e2.trans e3).trans e4).trans e5).trans e6) d6
    | false =>
      show Q (.bl false) H4
      exact q _ F4 H4 c4 ((e2.trans e3).trans e4) (.bl false)⟩

/-! ### operators by data -/
theorem lay0 {F H : Hp} : Lay F H F H := .inl ⟨rfl, rfl⟩
theorem rv_I0 {g : Int → Int → Int} {i j : Int} : RvD K (rI0 fun i j => .int (g i j)) (.int i) (.int j) (.int (g i j)) := fun F H v u _ hv hu Q q => ⟨i, j, dp_int hv, dp_int hu, q _ F H lay0 (.int _)⟩
theorem rv_B0 {g : Int → Int → Bool} {i j : Int} : RvD K (rI0 fun i j => .bl (g i j)) (.int i) (.int j) (.bool (g i j)) := fun F H v u _ hv hu Q q => ⟨i, j, dp_int hv, dp_int hu, q _ F H lay0 (.bl _)⟩
theorem rv_I {C : Int → Int → Prop} {g : Int → Int → Int} {i j : Int} (hc : C i j) : RvD K (rI C fun i j => .int (g i j)) (.int i) (.int j) (.int (g i j)) := fun F H v u _ hv hu Q q => ⟨i, j, dp_int hv, dp_int hu, hc, q _ F H lay0 (.int _)⟩
theorem ru_I {g : Int → Int} {i : Int} : RuD K (rU fun i => .int (g i)) (.int i) (.int (g i)) := fun F H v _ hv Q q => ⟨i, dp_int hv, q _ F H lay0 (.int _)⟩
theorem rv_eqD (hx : SeqAt.shaped x = true) (hy : SeqAt.shaped y = true) : RvD K (rEqD K) x y (.bool (PyData.eqv x y)) := fun F H v u e hv hu Q q => ⟨x, y, dp_up e hv, dp_up e hu, hx, hy, q _ F H lay0 (.bl _)⟩
theorem rv_neD (hx : SeqAt.shaped x = true) (hy : SeqAt.shaped y = true) : RvD K (rNeD K) x y (.bool (!PyData.eqv x y)) := fun F H v u e hv hu Q q => ⟨x, y, dp_up e hv, dp_up e hu, hx, hy, q _ F H lay0 (.bl _)⟩
theorem rv_ixT {ds : List PyData} {i : Int} (h : atI ds i = some z) : RvD K (rIxT K) (.tuple ds) (.int i) z := fun F H v u e hv hu Q q => by
  obtain ⟨a, xs, rfl, hs, ha⟩ := dp_tup hv
  obtain ⟨w, hw, dw⟩ := dpa_at ha h
  exact ⟨a, xs, i, w, rfl, dp_int hu, same_tup e hs, hw, q w F H lay0 dw⟩
theorem rv_ixL {ds : List PyData} {i : Int} (h : atI ds i = some z) : RvD K (rIxL K) (.list ds) (.int i) z := fun F H v u e hv hu Q q => by
  obtain ⟨a, xs, rfl, hs, ha⟩ := dp_lst hv
  obtain ⟨w, hw, dw⟩ := dpa_at ha h
  exact ⟨a, xs, i, w, rfl, dp_int hu, e.seq hs, hw, q w F H lay0 dw⟩
/-- is None, is not None -/
def nonB : PyData → Bool
  | .none => true
  | _ => false
theorem nonB_dec {F : Hp} {v : V} (h : Dp K F v x) : decide (v = V.non) = nonB x := by
  cases h <;> first | rfl | exact decide_eq_false (fun z => nomatch z)
theorem rv_isN : RvD K (fun x y H Q => y = .non ∧ Q (.bl (decide (x = .non))) H) x .none (.bool (nonB x)) := fun F H v u e hv hu Q q => ⟨dp_non hu, by rw [nonB_dec hv]; exact q _ F H lay0 (.bl _)⟩
theorem rv_notN : RvD K (fun x y H Q => y = .non ∧ Q (.bl (!decide (x = .non))) H) x .none (.bool (!nonB x)) := fun F H v u e hv hu Q q => ⟨dp_non hu, by rw [nonB_dec hv]; exact q _ F H lay0 (.bl _)⟩
end
end Kx

-- Kx2
set_option maxHeartbeats 2000000
/-! The data layer, second part: built-ins, calls, our own list, statements, loops, the def. -/
namespace Kx
open PySem PySem.Spec PyProof.Rows L2

/-! ### more operators -/
def CFd (_ j : Int) : Prop := j ≠ 0 ∧ j.natAbs.log2 < 9000
section
variable {X : Cx}
theorem op_mulX : OpR X (binaryOp .Mult) (rI IntMulOk fun i j => .int (i * j)) := opI fun _ _ _ _ _ _ _ hm k => mul_int k hm
theorem op_fdX : OpR X (binaryOp .FloorDiv) (rI CFd fun i j => .int (i.fdiv j)) := opI fun _ _ _ _ _ _ _ hm k => floordiv_int hm.1 k (.inl (PyProof.noPylong_of_log2 hm.2))
/-- math.isqrt -/
def isq (a : Int) : Int := ((Float64.isqrt a.toNat : Nat) : Int)
def rIsq : List V → Hp → VK → Prop := fun vs H Q => ∃ a : Int, vs = [.int a] ∧ 0 ≤ a ∧ a < 2 ^ 64 ∧ Q (.int (isq a)) H
theorem cr_isq : CallR X (.builtin "math.isqrt") rIsq := by
  intro pins s σ H vs us Q inv rel hyp
  obtain ⟨a, rfl, h0, h1, q⟩ := hyp
  obtain ⟨u, rfl, t, rfl⟩ := vals1 rel
  exact PySem.W.mg_isqrt h0 h1 ⟨.int _, H, inv.tok _, ⟨_, rfl⟩, q⟩
/-- min of a list of alike data -/
def rMinD (K : Fg) : List V → Hp → VK → Prop := fun vs H Q => ∃ (a : Addr) (xs : List V) (x : PyData) (ds : List PyData), vs = [.ref a] ∧ SqL K H a xs ∧ DpAll K H xs (x :: ds) ∧ PySem.W.AlikeAll (x :: ds) ∧ PyData.depthAll (x :: ds) ≤ 10 ∧
  ∀ (i : Nat) (v : V), xs[i]? = some v → (x :: ds)[i]? = some (PySem.W.minD x ds) → Q v H
theorem cr_minD (hc : X.calm = true) (hu : X.A.units + 64 < cLine) : CallR X (.builtin "min") (rMinD X.K) := by
  intro pins s σ H vs us Q inv rel hyp
  obtain ⟨a, xs, x, ds, rfl, hx, hd, ha, hdep, q⟩ := hyp
  obtain ⟨u, rfl, rx⟩ := vals1 rel
  cases rx
  obtain ⟨its, rv, pl, hz⟩ := inv.list hx
  obtain ⟨as, hr⟩ := Dp.readsAll inv (x :: ds) xs its hd rv
  refine PySem.W.min_list_data (inv.ok.hd hc) pl.isList (by simpa using hr) ha (by omega) fun i v h' tk bs hv hr' keep => ?_
  have hv2 : its[i]? = some v := by simpa using hv
  have hi : i < xs.length := by
    rw [rv.length]
    exact (List.getElem?_eq_some_iff.mp hv2).1
  obtain ⟨y, hy, ry⟩ : ∃ y, xs[i]? = some y ∧ RelV y v := by
    obtain ⟨u, hu', ru⟩ := rv.get (List.getElem?_eq_getElem hi)
    rw [hv2] at hu'
    cases hu'
    exact ⟨_, List.getElem?_eq_getElem hi, ru⟩
  obtain ⟨d, hd1, hd2⟩ := dpa_of hd hy
  obtain ⟨cs, hr2⟩ := Dp.reads inv d y v hd2 ry
  obtain ⟨e, _⟩ := PyProof.Rows.reads_det (fun b o e _ => keep b o e) hr2 hr'
  exact ⟨y, H, inv.kept (t' := tk) keep, ry, q i y hy (by rw [e]; exact hd1)⟩
/-- list + list, of any list that is read -/
def rCatS (K : Fg) : R2 := fun x y H Q => ∃ l b xs zs, x = .ref l ∧ y = .ref b ∧ SqL K H l xs ∧ SqL K H b zs ∧ xs.length + zs.length ≤ sizeLine ∧ ∀ p, H p = none → Q (.ref p) (upd H p (.lst (xs ++ zs)))
theorem op_catS : OpR X (binaryOp .Add) (rCatS X.K) := by
  intro pins s σ H x y v u Q inv rx ry hyp
  obtain ⟨l, b, xs, zs, rfl, rfl, hl, hb, hz, q⟩ := hyp
  cases rx
  cases ry
  obtain ⟨its, r, pl, _⟩ := inv.list hl
  obtain ⟨its2, r2, pl2, _⟩ := inv.list hb
  obtain ⟨⟨cls, dd, data, sl⟩, n, ho, hc1, hd1, he1⟩ := pl
  obtain ⟨⟨cls2, dd2, data2, sl2⟩, n2, ho2, hc2, hd2, he2⟩ := pl2
  simp only at hc1 hd1 he1 hc2 hd2 he2
  subst hc1 hd1 he1 hc2 hd2 he2
  have hsz : its.toArray.size + its2.toArray.size ≤ sizeLine := by
    rw [List.size_toArray, List.size_toArray, ← r.length, ← r2.length]
    exact hz
  refine PySem.concat_meets ⟨_, ho, rfl⟩ ⟨_, ho2, rfl⟩ PySem.noFill_list_add PySem.seq_list_add F.slot_list_add F.entry_list_add (F.args_list_add_2 _ _) (PyProof.Rows.list_addW l b its.toArray its2.toArray n n2 none none sl sl2 hsz) ⟨ho, ho2, ?_⟩
  have ea : its.toArray ++ its2.toArray = (its ++ its2).toArray := by simp
  rw [ea]
  exact ⟨.ref _, _, inv.lnew (t' := s.toks) (r.append r2) (by rw [List.length_append]; exact hz), rfl, q _ inv.fresh⟩
variable {a b c d : Expr} {ta tb tc td : TE} {pos : Pos}
/-- a op1 b op2 c op3 d, as a test -/
def tChain3 (r r' r'' : R2) (ta tb tc td : TE) : TT := fun σ H Q => ta σ H fun x H1 => tb σ H1 fun y H2 => r x y H2 fun z H3 => ∃ k, z = .bl k ∧
  (if k = true then tc σ H3 fun w H4 => r' y w H4 fun z' H5 => ∃ k', z' = .bl k' ∧ (if k' = true then td σ H5 fun w' H6 => r'' w w' H6 fun z'' H7 => ∃ k'', z'' = .bl k'' ∧ Q k'' H7 else Q false H5) else Q false H3)
theorem pt_chain3 {o1 o2 o3 : CmpOp} {r r' r'' : R2} (h1 : OpR X (compareOp o1) r) (h2 : OpR X (compareOp o2) r') (h3 : OpR X (compareOp o3) r'') (ha : PE X a ta) (hb : PE X b tb) (hc : PE X c tc) (hd : PE X d td)
    (hm : lastMarks [o1, o2, o3] [b, c, d] = false := by with_unfolding_all rfl) : PT X (.Compare a [o1, o2, o3] [b, c, d] pos) (tChain3 r r' r'' ta tb tc td) := by
  refine ⟨fun pins s σ H Q inv hyp => isTrue_chain (thn (ha.run pins s σ H _ inv hyp) fun v s1 ⟨x, H1, I1, r1, q1⟩ => test_link (thn (hb.run pins s1 σ H1 _ I1 q1) fun u s2 ⟨y, H2, I2, r2, q2⟩ =>
    thn (h1 pins s2 σ H2 x y v u _ I2 r1 r2 q2) fun e s3 ⟨z, H3, I3, r3, k, ek, q3⟩ => ?_)) hm⟩
  subst ek
  cases r3
  refine wpAny_truthy_bool ?_
  cases k with
  | false => exact ite_ff ⟨H3, I3, q3⟩
  | true =>
    refine ite_tt (test_link (thn (hc.run pins s3 σ H3 _ I3 q3) fun w s4 ⟨z', H4, I4, r4, q4⟩ => thn (h2 pins s4 σ H4 y z' u w _ I4 r2 r4 q4) fun e s5 ⟨z2, H5, I5, r5, k2, e2, q5⟩ => ?_))
    subst e2
    cases r5
    refine wpAny_truthy_bool ?_
    cases k2 with
    | false => exact ite_ff ⟨H5, I5, q5⟩
    | true =>
      refine ite_tt (test_last (thn (hd.run pins s5 σ H5 _ I5 q5) fun w' s6 ⟨z6, H6, I6, r6, q6⟩ => thn (h3 pins s6 σ H6 z' z6 w w' _ I6 r4 r6 q6) fun e s7 ⟨z7, H7, I7, r7, k3, e3, q7⟩ => ?_))
      subst e3
      cases r7
      exact wpAny_truthy_bool ⟨H7, I7, q7⟩
/-! ### match of a text -/
structure PM (X : Cx) (cs : List MatchCase) (t : Str → TS) : Prop where
  run : ∀ (first : Bool) (z : Str) (tk : Tok) (pins : List (Addr × Obj)) (s : Shared) (σ : L2.St) (H : Hp) (D : Ends), Inv X pins σ H s → t z D σ H → wpAny (model X.prog X.w) X.A (matchCases cs X.env (.str z tk) first) (SP X pins D) X.xe s
theorem pm_nil : PM X [] (fun _ => tNext) := ⟨fun _ _ _ _ _ σ H _ inv hyp => wpAny_matchCases_nil ⟨σ, H, inv, hyp⟩⟩
theorem pm_cons {y : Str} {k : Nat} {p1 p2 : Pos} {body : List Stmt} {rest : List MatchCase} {tb : TS} {tr : Str → TS} (hb : PSs X body tb) (hr : PM X rest tr) :
    PM X (⟨.MatchValue (.Constant (.str y) k p1) p2, none, body⟩ :: rest) (fun z D σ H => if decide (V.str z = V.str y) = true then tb D σ H else tr z D σ H) := by
  refine ⟨fun first z tk pins s σ H D inv hyp => wpAny_matchCases_cons (wpAny_matchPattern_Value (thn ((pe_str (X := X) (x := y)).run pins s σ H (fun v H1 => v = .str y ∧ H1 = H) inv ⟨rfl, rfl⟩) fun u s1 ⟨v, H1, I1, r1, e1, e2⟩ => ?_))⟩
  subst e1 e2
  refine thn (op_eq pins s1 σ H1 (.str z) (.str y) (.str z tk) u (fun v H2 => v = .bl (decide (V.str z = V.str y)) ∧ H2 = H1) I1 ⟨tk, rfl⟩ r1 ⟨rfl, rfl, rfl⟩) fun e s2 ⟨w, H2, I2, r2, e3, e4⟩ => ?_
  subst e3 e4
  cases r2
  refine wpAny_truthy_bool ?_
  cases hq : decide (V.str z = V.str y) with
  | true =>
    rw [hq] at hyp
    exact wpAny_assignInOrder_none (hb.run pins s2 σ H2 D I2 hyp)
  | false =>
    rw [hq] at hyp
    exact hr.run false z tk pins s2 σ H2 D I2 hyp
def tMatch (te : TE) (t : Str → TS) : TS := fun D σ H => te σ H fun v H1 => ∃ z, v = .str z ∧ t z D σ H1
theorem ps_match {cs : List MatchCase} {t : Str → TS} (he : PE X a ta) (hm : PM X cs t) : PS X (.Match a cs pos) (tMatch ta t) := by
  refine ⟨fun pins s σ H D inv hyp => wpAny_Match (thn (he.run pins s σ H _ inv hyp) fun v s1 ⟨x, H1, I1, r1, z, e, q⟩ => ?_)⟩
  subst e
  obtain ⟨tk, rfl⟩ := r1
  exact hm.run true z tk pins s1 σ H1 D I1 q
end

section
variable {K : Fg} {env : List Sl} {o : OS} {ta tb te : TE} {tt tu : TT} {x y z d : PyData} {r : R2} {R : PyData → OS → Prop}
/-! ### built-ins by data -/
theorem rc_abs {i : Int} : RcD K (fun xs H Q => ∃ i, xs = [.int i] ∧ Q (.int (if i < 0 then -i else i)) H) [.int i] (.int (i.natAbs : Int)) := fun F H vs _ hv Q q => by
  cases hv with
  | cons h t =>
    cases t
    have e := dp_int h
    subst e
    have e2 : (if i < 0 then -i else i) = (i.natAbs : Int) := by
      split <;> omega
    exact ⟨i, rfl, by rw [e2]; exact q _ F H lay0 (.int _)⟩
theorem rc_intI {i : Int} : RcD K (fun xs H Q => (∃ i, xs = [.int i] ∧ Q (.int i) H) ∨ ∃ k, xs = [.bl k] ∧ Q (.int (if k then 1 else 0)) H) [.int i] (.int i) := fun F H vs _ hv Q q => by
  cases hv with
  | cons h t =>
    cases t
    have e := dp_int h
    subst e
    exact .inl ⟨i, rfl, q _ F H lay0 (.int _)⟩
theorem rc_intB {b : Bool} : RcD K (fun xs H Q => (∃ i, xs = [.int i] ∧ Q (.int i) H) ∨ ∃ k, xs = [.bl k] ∧ Q (.int (if k then 1 else 0)) H) [.bool b] (.int (if b then 1 else 0)) := fun F H vs _ hv Q q => by
  cases hv with
  | cons h t =>
    cases t
    have e := dp_bl h
    subst e
    exact .inr ⟨b, rfl, q _ F H lay0 (.int _)⟩
theorem rc_isq {i : Int} (h0 : 0 ≤ i) (h1 : i < 2 ^ 64) : RcD K rIsq [.int i] (.int (isq i)) := fun F H vs _ hv Q q => by
  cases hv with
  | cons h t =>
    cases t
    have e := dp_int h
    subst e
    exact ⟨i, rfl, h0, h1, q _ F H lay0 (.int _)⟩
abbrev rLenQ (K : Fg) : List V → Hp → VK → Prop := fun xs H Q => ∃ p ys, xs = [.ref p] ∧ (SqL K H p ys ∨ SqT K H p ys) ∧ Q (.int ys.length) H
theorem rc_lenL {ds : List PyData} : RcD K (rLenQ K) [.list ds] (.int ds.length) := fun F H vs e hv Q q => by
  cases hv with
  | cons h t =>
    cases t
    obtain ⟨a, xs, rfl, hs, ha⟩ := dp_lst h
    exact ⟨a, xs, rfl, .inl (e.seq hs), by rw [dpa_len ha]; exact q _ F H lay0 (.int _)⟩
abbrev rTupOf (K : Fg) : List V → Hp → VK → Prop := fun xs H Q => ∃ p ys, xs = [.ref p] ∧ ((SqL K H p ys ∧ ∀ l, H l = none → Q (.ref l) (upd H l (.tup ys))) ∨ (SqT K H p ys ∧ Q (.ref p) H))
theorem rc_tupOf {ds : List PyData} : RcD K (rTupOf K) [.list ds] (.tuple ds) := fun F H vs e hv Q q => by
  cases hv with
  | cons h t =>
    cases t
    obtain ⟨a, xs, rfl, hs, ha⟩ := dp_lst h
    refine ⟨a, xs, rfl, .inl ⟨e.seq hs, fun l hl => q _ (upd F l (.tup xs)) _ (.inr ⟨l, .tup xs, hl, rfl, rfl⟩) (.tup (SqT.of upd_same) (dpa_up (same_new (same_none e hl)) ha))⟩⟩
theorem rc_minD {ds : List PyData} (ha : PySem.W.AlikeAll (x :: ds)) (hd : PyData.depthAll (x :: ds) ≤ 10) (hs : PySem.W.minD x ds = z) : RcD K (rMinD K) [.list (x :: ds)] z := fun F H vs e hv Q q => by
  cases hv with
  | cons h t =>
    cases t
    obtain ⟨a, xs, rfl, hs', hx⟩ := dp_lst h
    refine ⟨a, xs, x, ds, rfl, e.seq hs', dpa_up e hx, ha, hd, fun i v hi hm => ?_⟩
    obtain ⟨d, h1, h2⟩ := dpa_of hx hi
    rw [h1] at hm
    have e3 := Option.some.inj hm
    rw [hs] at e3
    subst e3
    exact q v F H lay0 h2
end
end Kx

-- Kx3
set_option maxHeartbeats 2000000
/-! The data layer, third part: calls, our own list, statements, loops, the def. -/
namespace Kx
open PySem PySem.Spec PyProof.Rows L2

def rm (H : Hp) (l : Addr) : Hp := fun a => if a = l then none else H a
theorem rm_at (H : Hp) (l : Addr) : rm H l l = none := if_pos rfl
theorem rm_ne {H : Hp} {l a : Addr} (h : a ≠ l) : rm H l a = H a := if_neg h
theorem rm_same (H : Hp) (l : Addr) : Same (rm H l) H := fun a u e => by
  by_cases q : a = l
  · subst q
    rw [rm_at] at e
    cases e
  · rw [rm_ne q] at e
    exact e
theorem same_rm {B H : Hp} {l : Addr} (h : Same B H) (hl : B l = none) : Same B (rm H l) := fun a u e => by
  have q : a ≠ l := fun z => by
    subst z
    rw [hl] at e
    cases e
  rw [rm_ne q]
  exact h a u e

/-! ### promises -/
/-- a pure def: R args result -/
def spD (K : Fg) (R : List PyData → PyData → Prop) : Sp := fun vs H Q _ => ∃ (F : Hp) (ds : List PyData) (d : PyData), Same F H ∧ DpAll K F vs ds ∧ R ds d ∧
  ∀ (v : V) (F2 H2 : Hp), Same H H2 → Same F F2 → Same F2 H2 → (∀ a u, F2 a = some u → F a = some u ∨ H a = none) → Dp K F2 v d → Q v H2
/-- a def whose first argument is our own list, which it changes -/
def spS (K : Fg) (Pre : List PyData → List PyData → Prop) (Post : List PyData → List PyData → PyData → List PyData → Prop) : Sp := fun vs H Q _ =>
  ∃ (F : Hp) (l : Addr) (ws : List V) (ds cs : List PyData), vs = .ref l :: ws ∧ Same F H ∧ DpAll K F ws ds ∧ F l = none ∧ (∃ xs, H l = some (.lst xs) ∧ DpAll K F xs cs) ∧ Pre ds cs ∧
  ∀ (v : V) (F2 H2 : Hp) (d : PyData) (es : List PyData), Post ds cs d es → Same (rm H l) H2 → Same F F2 → Same F2 H2 → (∀ a u, F2 a = some u → F a = some u ∨ rm H l a = none) → F2 l = none →
    (∃ ys, H2 l = some (.lst ys) ∧ DpAll K F2 ys es) → Dp K F2 v d → Q v H2
section
variable {K : Fg} {env : List Sl} {o : OS} {ta tb te : TE} {tt tu : TT} {x y z d : PyData} {r : R2} {R : PyData → OS → Prop}
theorem ev_call {P : List PyData → PyData → Prop} {E : XK} {ta : TA} {ds : List PyData} (h : EvA K ta env o ds) (hp : P ds d) : EvD K (tCall (spD K P) [] E ta) env o d := fun F0 B l0 F H l σ c Q q =>
  h F0 B l0 F H l σ c _ fun vs F2 H2 c2 e2 d2 => ⟨F2, ds, d, c2.fh, by rw [List.append_nil]; exact d2, hp, fun v F3 H3 h1 h2 h3 h4 d3 => q v F3 H3 (c2.grow h1 h2 h3 h4) (e2.trans h2) d3⟩
theorem er_call {P : List PyData → PyData → Prop} {E : XK} {ta : TA} (h : EvAR K ta env o fun ds o2 => ∃ d, P ds d ∧ R d o2) : EvR K (tCall (spD K P) [] E ta) env o R := fun F0 B l0 F H l σ c Q q =>
  h F0 B l0 F H l σ c _ fun vs F2 H2 ds o2 ⟨d, hp, hR⟩ c2 e2 d2 => ⟨F2, ds, d, c2.fh, by rw [List.append_nil]; exact d2, hp, fun v F3 H3 h1 h2 h3 h4 d3 => q v F3 H3 d o2 hR (c2.grow h1 h2 h3 h4) (e2.trans h2) d3⟩
/-- behind a call that changed our own list -/
theorem Cf.changed {F0 B : Hp} {l0 : Option Addr} {F H : Hp} {l : Addr} {σ : L2.St} {cs es : List PyData} (c : Cf K F0 B l0 F H l (some cs) σ env) {F2 H2 : Hp} (h1 : Same (rm H l) H2) (h2 : Same F F2) (h3 : Same F2 H2)
    (h4 : ∀ a u, F2 a = some u → F a = some u ∨ rm H l a = none) (h5 : F2 l = none) (h6 : ∃ ys, H2 l = some (.lst ys) ∧ DpAll K F2 ys es) : Cf K F0 B l0 F2 H2 l (some es) σ env := by
  obtain ⟨k1, k2, xs, k3, k4⟩ := c.own cs rfl
  have hb := same_rm c.bh k2
  refine ⟨c.ff.trans h2, hb.trans h1, h3, fun a u e => ?_, sat_up h2 c.sat, fun ds e => ?_, c.fx⟩
  · rcases h4 a u e with q | q
    · exact c.nw a u q
    · exact .inr (same_none hb q)
  · cases e
    exact ⟨h5, k2, h6⟩
theorem er_callS {Pre : List PyData → List PyData → Prop} {Post : List PyData → List PyData → PyData → List PyData → Prop} {E : XK} {tr : TA} {i : Nat} (hi : env[i]? = some .own)
    (h : EvAR K tr env o fun ds o2 => ∃ cs, o2 = some cs ∧ Pre ds cs ∧ ∀ d es, Post ds cs d es → R d (some es)) : EvR K (tCall (spS K Pre Post) [] E (tCons (tVar i) tr)) env o R := fun F0 B l0 F H l σ c Q q =>
  ⟨.ref l, c.getOwn hi, h F0 B l0 F H l σ c _ fun ws F2 H2 ds o2 ⟨cs, e, hp, hR⟩ c2 e2 d2 => by
    subst e
    obtain ⟨k1, k2, xs, k3, k4⟩ := c2.own cs rfl
    exact ⟨F2, l, ws, ds, cs, by rw [List.append_nil], c2.fh, d2, k1, ⟨xs, k3, k4⟩, hp, fun v F3 H3 d es hq h1 h2 h3 h4 h5 h6 d3 => q v F3 H3 d (some es) (hR d es hq) (c2.changed h1 h2 h3 h4 h5 h6) (e2.trans h2) d3⟩⟩

/-! ### our own list, read -/
theorem ev_ixOwn {i : Nat} {cs : List PyData} {j : Int} (hi : env[i]? = some .own) (hb : EvD K tb env (some cs) (.int j)) (hj : atI cs j = some d) : EvD K (tOp (rIxL K) (tVar i) tb) env (some cs) d := fun F0 B l0 F H l σ c Q q =>
  ⟨.ref l, c.getOwn hi, hb F0 B l0 F H l σ c _ fun v F2 H2 c2 e2 d2 => by
    obtain ⟨k1, k2, xs, k3, k4⟩ := c2.own cs rfl
    obtain ⟨w, hw, dw⟩ := dpa_at k4 hj
    exact ⟨l, xs, j, w, rfl, dp_int d2, SqL.of k3, hw, q w F2 H2 c2 e2 dw⟩⟩
theorem ev_lenOwn {i : Nat} {cs : List PyData} (hi : env[i]? = some .own) : EvD K (tCB (rLenQ K) (tCons (tVar i) tNil)) env (some cs) (.int cs.length) := fun F0 B l0 F H l σ c Q q => by
  obtain ⟨k1, k2, xs, k3, k4⟩ := c.own cs rfl
  exact ⟨.ref l, c.getOwn hi, l, xs, rfl, .inl (SqL.of k3), by rw [dpa_len k4]; exact q _ F H c (Same.refl _) (.int _)⟩

/-! ### a tuple's beginning; isinstance of a tuple or None; list + list -/
theorem ev_cut2 (h : EvD K te env o (.tuple [x, y, z])) : EvD K (tSl (rSlT K) te tNoPart (tPart (tC (.int 2)))) env o (.tuple [x, y]) := fun F0 B l0 F H l σ c Q q =>
  h F0 B l0 F H l σ c _ fun v F2 H2 c2 e2 d2 => by
    obtain ⟨a, xs, rfl, hs, ha⟩ := dp_tup d2
    have hl := dpa_len ha
    obtain ⟨v1, v2, v3, rfl⟩ : ∃ v1 v2 v3, xs = [v1, v2, v3] := by
      match xs, hl with
      | [v1, v2, v3], _ => exact ⟨v1, v2, v3, rfl⟩
    refine ⟨2, rfl, a, _, rfl, same_tup c2.fh hs, (by show ¬ (HT.sIx 3 0 none = 0 ∧ HT.sIx 3 3 (some 2) = 3); decide), fun p hp => ?_⟩
    refine q _ (upd F2 p (.tup [v1, v2])) _ (c2.new (.tup [v1, v2]) hp) (e2.trans (same_new (same_none c2.fh hp))) (.tup (SqT.of upd_same) (dpa_up (same_new (same_none c2.fh hp)) ?_))
    cases ha with
    | cons h1 t1 =>
      cases t1 with
      | cons h2 t2 => exact .cons h1 (.cons h2 .nil)
def isTupB : PyData → Bool
  | .tuple _ => true
  | _ => false
theorem ev_isiT (h : EvD K ta env o x) (hx : isTupB x = true ∨ x = .none) : EvD K (tCB (rIsi K) (tCons ta (tCons (tC (.ty "tuple")) tNil))) env o (.bool (isTupB x)) := fun F0 B l0 F H l σ c Q q =>
  h F0 B l0 F H l σ c _ fun v F2 H2 c2 e2 d2 => by
    have go : ∀ {t : String} {b : Bool}, TyX K H2 v (.type t) → kitB t "tuple" = some b → b = isTupB x → rIsi K [v, .ty "tuple"] H2 Q := fun {t b} ty hk hb =>
      ⟨v, .ty "tuple", .type t, .type "tuple", b, rfl, .ty "tuple", ty, kit_ty hk, by rw [hb]; exact q _ F2 H2 c2 e2 (.bl _)⟩
    rcases hx with hx | rfl
    · cases x with
      | tuple ds =>
        obtain ⟨a, xs, rfl, hs, ha⟩ := dp_tup d2
        have ty : TyX K H2 (.ref a) (.type "tuple") := by
          rcases same_tup c2.fh hs with (k | ⟨ob, k⟩) | ⟨ob, its, n, k, k2, _⟩
          · exact .base (.tup k)
          · exact .fTuple k
          · exact .kTuple k k2
        exact go ty (b := true) (by decide +kernel) rfl
      | _ => cases hx
    · have e := dp_non d2
      subst e
      exact go (.base .non) (b := false) (by decide +kernel) rfl
theorem rv_cat {ds es : List PyData} (h : ds.length + es.length ≤ 100000) : RvD K (rCatS K) (.list ds) (.list es) (.list (ds ++ es)) := fun F H v u e hv hu Q q => by
  obtain ⟨a, xs, rfl, hs, ha⟩ := dp_lst hv
  obtain ⟨b, zs, rfl, hs2, hb⟩ := dp_lst hu
  refine ⟨a, b, xs, zs, rfl, rfl, e.seq hs, e.seq hs2, sz_of (by rw [dpa_len ha, dpa_len hb]; exact h), fun p hp => ?_⟩
  exact q _ (upd F p (.lst (xs ++ zs))) _ (.inr ⟨p, _, hp, rfl, rfl⟩) (.lst (SqL.of upd_same) (dpa_up (same_new (same_none e hp)) (dpa_app ha hb)))
end

/-! ### statements -/
abbrev PN := List Sl → OS → Prop
abbrev PR := PyData → OS → Prop
/-- what is known of the ends -/
structure Ko (K : Fg) (l0 : Option Addr) (F0 B : Hp) (D : Ends) (N : PN) (R : PR) (Bk Ct : PN) : Prop where
  nx : ∀ F H l σ e o, N e o → Cf K F0 B l0 F H l o σ e → D.nx σ H
  rt : ∀ v F H l σ e d o, R d o → Cf K F0 B l0 F H l o σ e → Dp K F v d → D.rt v H
  bk : ∀ F H l σ e o, Bk e o → Cf K F0 B l0 F H l o σ e → D.bk σ H
  ct : ∀ F H l σ e o, Ct e o → Cf K F0 B l0 F H l o σ e → D.ct σ H
def SD (K : Fg) (l0 : Option Addr) (t : TS) (env : List Sl) (o : OS) (N : PN) (R : PR) (Bk Ct : PN) : Prop :=
  ∀ (F0 B F H : Hp) (l : Addr) (σ : L2.St), Cf K F0 B l0 F H l o σ env → ∀ D : Ends, Ko K l0 F0 B D N R Bk Ct → t D σ H
/-- a target on data -/
def TgD (K : Fg) (g : TG) (d : PyData) (env env' : List Sl) : Prop := ∀ (F0 B : Hp) (l0 : Option Addr) (F H : Hp) (l : Addr) (σ : L2.St) (o : OS) (v : V), Cf K F0 B l0 F H l o σ env → Dp K F v d → ∀ Q : L2.St → Hp → Prop,
  (∀ σ2, Cf K F0 B l0 F H l o σ2 env' → Q σ2 H) → g v σ H Q
def TgsD (K : Fg) (g : TGs) (ds : List PyData) (env env' : List Sl) : Prop := ∀ (F0 B : Hp) (l0 : Option Addr) (F H : Hp) (l : Addr) (σ : L2.St) (o : OS) (vs : List V), Cf K F0 B l0 F H l o σ env → DpAll K F vs ds → ∀ Q : L2.St → Hp → Prop,
  (∀ σ2, Cf K F0 B l0 F H l o σ2 env' → Q σ2 H) → g vs σ H Q
section
variable {K : Fg} {l0 : Option Addr} {env env' : List Sl} {o : OS} {te tb : TE} {tt : TT} {t u : TS} {x y z d : PyData} {N M : PN} {R : PR} {Bk Ct : PN} {g : TG}
theorem tg_name {i : Nat} : TgD K (gName i) d env (env.set i (.d d)) := fun F0 B l0 F H l σ o v c dv Q q => q _ (c.set dv i)
theorem tg_nil : TgsD K gNil [] env env := fun F0 B l0 F H l σ o vs c dv Q q => by
  cases dv
  exact ⟨rfl, q σ c⟩
theorem tg_cons {h : TGs} {ds : List PyData} {e2 : List Sl} (h1 : TgD K g d env env') (h2 : TgsD K h ds env' e2) : TgsD K (gCons g h) (d :: ds) env e2 := fun F0 B l0 F H l σ o vs c dv Q q => by
  cases dv with
  | cons a b => exact ⟨_, _, rfl, h1 F0 B l0 F H l σ o _ c a _ fun σ2 c2 => h2 F0 B l0 F H l σ2 o _ c2 b Q q⟩
theorem tg_tup {h : TGs} {ds : List PyData} {n : Nat} (hh : TgsD K h ds env env') (hn : ds.length = n := by rfl) : TgD K (gTup K n h) (.tuple ds) env env' := fun F0 B l0 F H l σ o v c dv Q q => by
  obtain ⟨a, xs, rfl, hs, ha⟩ := dp_tup dv
  exact ⟨a, xs, rfl, same_tup c.fh hs, by rw [dpa_len ha]; exact hn, hh F0 B l0 F H l σ o xs c ha Q q⟩
theorem tg_unl {h : TGs} {ds : List PyData} {n : Nat} (hh : TgsD K h ds env env') (hn : ds.length = n := by rfl) : TgD K (gUnl K n h) (.list ds) env env' := fun F0 B l0 F H l σ o v c dv Q q => by
  obtain ⟨a, xs, rfl, hs, ha⟩ := dp_lst dv
  exact ⟨a, xs, rfl, c.fh.seq hs, by rw [dpa_len ha]; exact hn, hh F0 B l0 F H l σ o xs c ha Q q⟩

theorem SD.imp {N' : PN} {R' : PR} {Bk' Ct' : PN} (h : SD K l0 t env o N R Bk Ct) (h1 : ∀ e o, N e o → N' e o) (h2 : ∀ d o, R d o → R' d o) (h3 : ∀ e o, Bk e o → Bk' e o) (h4 : ∀ e o, Ct e o → Ct' e o) : SD K l0 t env o N' R' Bk' Ct' :=
  fun F0 B F H l σ c D k => h F0 B F H l σ c D ⟨fun F H l σ e o n => k.nx F H l σ e o (h1 e o n), fun v F H l σ e d o n => k.rt v F H l σ e d o (h2 d o n), fun F H l σ e o n => k.bk F H l σ e o (h3 e o n), fun F H l σ e o n => k.ct F H l σ e o (h4 e o n)⟩
theorem s_next (h : N env o) : SD K l0 tNext env o N R Bk Ct := fun F0 B F H l σ c D k => k.nx F H l σ env o h c
theorem s_brk (h : Bk env o) : SD K l0 tBreak env o N R Bk Ct := fun F0 B F H l σ c D k => k.bk F H l σ env o h c
theorem s_cont (h : Ct env o) : SD K l0 tCont env o N R Bk Ct := fun F0 B F H l σ c D k => k.ct F H l σ env o h c
theorem s_seq (h1 : SD K l0 t env o M R Bk Ct) (h2 : ∀ e o, M e o → SD K l0 u e o N R Bk Ct) : SD K l0 (tSeq t u) env o N R Bk Ct := fun F0 B F H l σ c D k =>
  h1 F0 B F H l σ c { D with nx := u D } ⟨fun F H l σ e o n c2 => h2 e o n F0 B F H l σ c2 D k, k.rt, k.bk, k.ct⟩
/-- one statement whose end is one configuration, then the rest -/
theorem s_seq1 {e2 : List Sl} {o2 : OS} (h1 : SD K l0 t env o (fun e o => e = e2 ∧ o = o2) R Bk Ct) (h2 : SD K l0 u e2 o2 N R Bk Ct) : SD K l0 (tSeq t u) env o N R Bk Ct := s_seq h1 fun e o ⟨a, b⟩ => by
  subst a b
  exact h2
theorem s_asg {i : Nat} (h : EvD K te env o d) (k : N (env.set i (.d d)) o) : SD K l0 (tAsg te (gName i)) env o N R Bk Ct := fun F0 B F H l σ c D q => h F0 B l0 F H l σ c _ fun v F2 H2 c2 _ d2 => q.nx F2 H2 l _ _ o k (c2.set d2 i)
theorem s_asgG (h : EvD K te env o d) (hg : TgD K g d env env') (k : N env' o) : SD K l0 (tAsg te g) env o N R Bk Ct := fun F0 B F H l σ c D q => h F0 B l0 F H l σ c _ fun v F2 H2 c2 _ d2 =>
  hg F0 B l0 F2 H2 l σ o v c2 d2 _ fun σ2 c3 => q.nx F2 H2 l σ2 env' o k c3
theorem s_asgR (h : EvR K te env o fun d o2 => ∃ env', TgD K g d env env' ∧ N env' o2) : SD K l0 (tAsg te g) env o N R Bk Ct := fun F0 B F H l σ c D q => h F0 B l0 F H l σ c _ fun v F2 H2 d o2 ⟨env', hg, k⟩ c2 _ d2 =>
  hg F0 B l0 F2 H2 l σ o2 v c2 d2 _ fun σ2 c3 => q.nx F2 H2 l σ2 env' o2 k c3
theorem q_asg {i : Nat} (h : EvD K te env o d) (k : SD K l0 u (env.set i (.d d)) o N R Bk Ct) : SD K l0 (tSeq (tAsg te (gName i)) u) env o N R Bk Ct := s_seq1 (s_asg h ⟨rfl, rfl⟩) k
theorem q_asgG (h : EvD K te env o d) (hg : TgD K g d env env') (k : SD K l0 u env' o N R Bk Ct) : SD K l0 (tSeq (tAsg te g) u) env o N R Bk Ct := s_seq1 (s_asgG h hg ⟨rfl, rfl⟩) k
theorem q_asgR (h : EvR K te env o fun d o2 => ∃ env', TgD K g d env env' ∧ SD K l0 u env' o2 N R Bk Ct) : SD K l0 (tSeq (tAsg te g) u) env o N R Bk Ct := s_seq (M := fun e o => SD K l0 u e o N R Bk Ct) (s_asgR h) fun _ _ h => h
theorem s_par {i j : Nat} {ta : TA} (h : EvA K ta env o [x, y]) (k : N ((env.set i (.d x)).set j (.d y)) o) : SD K l0 (tPar i j ta) env o N R Bk Ct := fun F0 B F H l σ c D q => h F0 B l0 F H l σ c _ fun vs F2 H2 c2 _ d2 => by
  cases d2 with
  | cons a t =>
    cases t with
    | cons b t =>
      cases t
      exact ⟨_, _, rfl, q.nx F2 H2 l _ _ o k ((c2.set a i).set b j)⟩
theorem s_par3 {i j n : Nat} {ta : TA} (h : EvA K ta env o [x, y, z]) (k : N (((env.set i (.d x)).set j (.d y)).set n (.d z)) o) : SD K l0 (tPar3 i j n ta) env o N R Bk Ct := fun F0 B F H l σ c D q => h F0 B l0 F H l σ c _ fun vs F2 H2 c2 _ d2 => by
  cases d2 with
  | cons a t =>
    cases t with
    | cons b t =>
      cases t with
      | cons e t =>
        cases t
        exact ⟨_, _, _, rfl, q.nx F2 H2 l _ _ o k (((c2.set a i).set b j).set e n)⟩
theorem q_par {i j : Nat} {ta : TA} (h : EvA K ta env o [x, y]) (k : SD K l0 u ((env.set i (.d x)).set j (.d y)) o N R Bk Ct) : SD K l0 (tSeq (tPar i j ta) u) env o N R Bk Ct := s_seq1 (s_par h ⟨rfl, rfl⟩) k
theorem q_par3 {i j n : Nat} {ta : TA} (h : EvA K ta env o [x, y, z]) (k : SD K l0 u (((env.set i (.d x)).set j (.d y)).set n (.d z)) o N R Bk Ct) : SD K l0 (tSeq (tPar3 i j n ta) u) env o N R Bk Ct := s_seq1 (s_par3 h ⟨rfl, rfl⟩) k
theorem s_if {b : Bool} (h : EvT K tt env o b) (h1 : b = true → SD K l0 t env o N R Bk Ct) (h2 : b = false → SD K l0 u env o N R Bk Ct) : SD K l0 (tIfS tt t u) env o N R Bk Ct := fun F0 B F H l σ c D k => h F0 B l0 F H l σ c _ fun F2 H2 c2 _ => by
  cases b with
  | true =>
    show t D σ H2
    exact h1 rfl F0 B F2 H2 l σ c2 D k
  | false =>
    show u D σ H2
    exact h2 rfl F0 B F2 H2 l σ c2 D k
theorem s_ret (h : EvD K te env o d) (k : R d o) : SD K l0 (tRet te) env o N R Bk Ct := fun F0 B F H l σ c D q => h F0 B l0 F H l σ c _ fun v F2 H2 c2 _ d2 => q.rt v F2 H2 l σ env d o k c2 d2
theorem s_retR (h : EvR K te env o R) : SD K l0 (tRet te) env o N R Bk Ct := fun F0 B F H l σ c D q => h F0 B l0 F H l σ c _ fun v F2 H2 d o2 hR c2 _ d2 => q.rt v F2 H2 l σ env d o2 hR c2 d2
theorem s_drop (h : EvD K te env o d) (k : N env o) : SD K l0 (tDrop te) env o N R Bk Ct := fun F0 B F H l σ c D q => h F0 B l0 F H l σ c _ fun v F2 H2 c2 _ _ => q.nx F2 H2 l σ env o k c2
theorem s_match {f : Str → TS} {s : Str} (h : EvD K te env o (.str s)) (k : SD K l0 (f s) env o N R Bk Ct) : SD K l0 (tMatch te f) env o N R Bk Ct := fun F0 B F H l σ c D q => h F0 B l0 F H l σ c _ fun v F2 H2 c2 _ d2 => ⟨s, dp_str d2, k F0 B F2 H2 l σ c2 D q⟩

/-! ### our own list -/
theorem s_new {i : Nat} {ta : TA} {ds : List PyData} (hn : noOwn env = true) (h : EvA K ta env none ds) (hl : ds.length ≤ 100000) (k : N (env.set i .own) (some ds)) : SD K none (tAsg (tLst ta) (gName i)) env none N R Bk Ct := fun F0 B F H l σ c D q =>
  h F0 B none F H l σ c _ fun vs F2 H2 c2 _ d2 => ⟨sz_of (by rw [dpa_len d2]; exact hl), fun p hp => by
    have c3 := (c2.owned hn hp).put (ys := vs) rfl d2
    rw [upd_upd] at c3
    exact q.nx F2 _ p _ _ (some ds) k ⟨c3.ff, c3.bh, c3.fh, c3.nw, sat_set (s := .own) (o := some (.ref p)) c3.sat rfl i, c3.own, c3.fx⟩⟩
theorem s_app {i : Nat} {ds : List PyData} (hi : env[i]? = some .own) (h : EvD K te env (some ds) d) (hl : ds.length < 100000) (k : N env (some (ds ++ [d]))) : SD K l0 (tDrop (tBM K "list" rAppend (tVar i) (tCons te tNil))) env (some ds) N R Bk Ct := fun F0 B F H l σ c D q => by
  obtain ⟨k1, k2, xs, k3, k4⟩ := c.own ds rfl
  refine ⟨.ref l, c.getOwn hi, .inl ⟨rfl, xs, SqL.of k3⟩, h F0 B l0 F H l σ c _ fun v F2 H2 c2 e2 d2 => ?_⟩
  obtain ⟨m1, m2, ys, m3, m4⟩ := c2.own ds rfl
  exact ⟨l, ys, v, rfl, rfl, m3, sz_lt (by rw [dpa_len m4]; exact hl), q.nx F2 _ l σ env _ k (c2.put rfl (dpa_app m4 (.cons d2 .nil)))⟩
theorem s_setOwn {i : Nat} {ds : List PyData} {j : Int} {n : Nat} (hi : env[i]? = some .own) (h : EvD K te env (some ds) d) (hb : EvD K tb env (some ds) (.int j)) (hj : ixN ds.length j = some n) (k : N env (some (ds.set n d))) :
    SD K l0 (tAsg te (gSub (tVar i) tb rSetL)) env (some ds) N R Bk Ct := fun F0 B F H l σ c D q => h F0 B l0 F H l σ c _ fun v F2 H2 c2 _ d2 => ⟨.ref l, c2.getOwn hi, hb F0 B l0 F2 H2 l σ c2 _ fun w F3 H3 c3 e3 d3 => by
  obtain ⟨m1, m2, ys, m3, m4⟩ := c3.own ds rfl
  exact ⟨l, ys, j, n, rfl, dp_int d3, m3, by rw [dpa_len m4]; exact hj, q.nx F3 _ l σ env _ k (c3.put rfl (dpa_set (dp_up e3 d2) n m4))⟩⟩
theorem s_retOwn {i : Nat} {ds : List PyData} (hi : env[i]? = some .own) (k : R (.list ds) none) : SD K l0 (tRet (tVar i)) env (some ds) N R Bk Ct := fun F0 B F H l σ c D q => by
  obtain ⟨F2, e2, d2, c2⟩ := c.give rfl
  exact ⟨.ref l, c.getOwn hi, q.rt _ F2 H l σ env _ none k c2 d2⟩

/-! ### loops -/
theorem s_while (I : Nat → PN) {m0 : Nat} (h0 : I m0 env o) (hs : ∀ m e o, I m e o → ∃ b, EvT K tt e o b ∧ (b = true → SD K l0 t e o (fun e2 o2 => ∃ m', m' < m ∧ I m' e2 o2) R N (fun e2 o2 => ∃ m', m' < m ∧ I m' e2 o2)) ∧ (b = false → N e o)) :
    SD K l0 (tWhile tt t) env o N R Bk Ct := fun F0 B F H l σ c D k =>
  ⟨fun m σ H => ∃ F l e o, I m e o ∧ Cf K F0 B l0 F H l o σ e, ⟨m0, F, l, env, o, h0, c⟩, fun m σ H ⟨F, l, e, o, hi, c⟩ => by
    obtain ⟨b, hb, h1, h2⟩ := hs m e o hi
    refine hb F0 B l0 F H l σ c _ fun F2 H2 c2 _ => ?_
    cases b with
    | true =>
      exact ⟨fun σ' H' => ∃ m', m' < m ∧ ∃ F l e o, I m' e o ∧ Cf K F0 B l0 F H' l o σ' e, fun σ' H' q => q, h1 rfl F0 B F2 H2 l σ c2 _ ⟨fun F H l σ e o ⟨m', a, b⟩ c => ⟨m', a, F, l, e, o, b, c⟩, k.rt, k.nx, fun F H l σ e o ⟨m', a, b⟩ c => ⟨m', a, F, l, e, o, b, c⟩⟩⟩
    | false => exact k.nx F2 H2 l σ e o (h2 rfl) c2⟩
theorem s_forR {ta : TA} {j : Nat} (P : Nat → PN) (h : EvAR K ta env o fun ds o2 => ∃ n : Int, ds = [.int n] ∧ 0 ≤ n ∧ n ≤ 100000 ∧ P 0 env o2 ∧ (∀ (i : Nat) e o, (i : Int) < n → P i e o → SD K l0 t (e.set j (.d (.int (i : Int)))) o (P (i + 1)) R N (P (i + 1))) ∧ (∀ e o, P n.toNat e o → N e o)) :
    SD K l0 (tFor (iRng1 ta) (gName j) t) env o N R Bk Ct := fun F0 B F H l σ c D k => h F0 B l0 F H l σ c _ fun vs F2 H2 ds o2 ⟨n, e1, g0, g1, h0, hs, hd⟩ c2 _ d2 => by
  subst e1
  cases d2 with
  | cons a t2 =>
    cases t2
    have e := dp_int a
    subst e
    refine ⟨n, rfl, by omega, by omega, for_range (lo := 0) (n := n.toNat) (fun i σ H => ∃ F l e o, P i e o ∧ Cf K F0 B l0 F H l o σ e) ⟨F2, l, env, o2, h0, c2⟩ (fun i σ H hi ⟨F, l, e, o, p, c⟩ => ?_) fun σ H ⟨F, l, e, o, p, c⟩ => k.nx F H l σ e o (hd e o p) c⟩
    show t { D with nx := fun σ H => ∃ F l e o, P (i + 1) e o ∧ Cf K F0 B l0 F H l o σ e, ct := fun σ H => ∃ F l e o, P (i + 1) e o ∧ Cf K F0 B l0 F H l o σ e, bk := D.nx } (σ.set j (some (.int ((0 : Int) + (i : Int))))) H
    rw [Int.zero_add]
    exact hs i e o (by omega) p F0 B F H l _ (c.set (.int _) j) _ ⟨fun F H l σ e o p c => ⟨F, l, e, o, p, c⟩, k.rt, k.nx, fun F H l σ e o p c => ⟨F, l, e, o, p, c⟩⟩
theorem s_forL {tl : TE} {ds : List PyData} (P : Nat → PN) (h : EvD K tl env o (.list ds)) (h0 : P 0 env o) (hs : ∀ (i : Nat) d e o, ds[i]? = some d → P i e o → ∃ e2, TgD K g d e e2 ∧ SD K l0 t e2 o (P (i + 1)) R N (P (i + 1))) (hd : ∀ e o, P ds.length e o → N e o) :
    SD K l0 (tFor (iList K tl) g t) env o N R Bk Ct := fun F0 B F H l σ c D k => h F0 B l0 F H l σ c _ fun v F2 H2 c2 _ d2 => by
  obtain ⟨a, xs, rfl, hq, ha⟩ := dp_lst d2
  refine ⟨a, rfl, ⟨xs, c2.fh.seq hq⟩, for_list (xs := xs) (fun i σ H => ∃ F l e o, P i e o ∧ Cf K F0 B l0 F H l o σ e ∧ Same F2 F) ⟨F2, l, env, o, h0, c2, Same.refl _⟩ (fun i σ H _ ⟨F, l, e, o, p, c, s⟩ => c.fh.seq (s.seq hq)) (fun i x σ H hi ⟨F, l, e, o, p, c, s⟩ => ?_)
    fun σ H ⟨F, l, e, o, p, c, s⟩ => k.nx F H l σ e o (hd e o (by rw [← dpa_len ha]; exact p)) c⟩
  obtain ⟨d, hd1, hd2⟩ := dpa_of ha hi
  obtain ⟨e2, hg, hb⟩ := hs i d e o hd1 p
  refine hg F0 B l0 F H l σ o x c (dp_up s hd2) _ fun σ2 c3 => ?_
  -- the list walked stays: F2 is within the entry's facts of the turn
  have c4 : Cf K F2 B l0 F H l o σ2 e2 := ⟨s, c3.bh, c3.fh, fun a u q => by
    rcases c3.nw a u q with z | z
    · exact .inl (c2.ff a u z)
    · exact .inr z, c3.sat, c3.own, c3.fx⟩
  have back : ∀ {F H : Hp} {l : Addr} {σ : L2.St} {e : List Sl} {o : OS}, Cf K F2 B l0 F H l o σ e → Cf K F0 B l0 F H l o σ e := fun {F H l σ e o} c => ⟨c2.ff.trans c.ff, c.bh, c.fh, fun a u q => by
    rcases c.nw a u q with z | z
    · exact c2.nw a u z
    · exact .inr z, c.sat, c.own, c.fx⟩
  exact hb F2 B F H l σ2 c4 _ ⟨fun F H l σ e o p c => ⟨F, l, e, o, p, back c, c.ff⟩, fun v F H l σ e d o r c dv => k.rt v F H l σ e d o r (back c) dv, fun F H l σ e o n c => k.nx F H l σ e o n (back c), fun F H l σ e o p c => ⟨F, l, e, o, p, back c, c.ff⟩⟩
theorem s_forLR {tl : TE} (h : EvR K tl env o fun d o2 => ∃ (ds : List PyData) (P : Nat → PN), d = .list ds ∧ P 0 env o2 ∧ (∀ (i : Nat) d e o, ds[i]? = some d → P i e o → ∃ e2, TgD K g d e e2 ∧ SD K l0 t e2 o (P (i + 1)) R N (P (i + 1))) ∧ ∀ e o, P ds.length e o → N e o) :
    SD K l0 (tFor (iList K tl) g t) env o N R Bk Ct := fun F0 B F H l σ c D k => h F0 B l0 F H l σ c _ fun v F2 H2 dd o2 ⟨ds, P, ed, h0, hs, hd⟩ c2 _ d2 => by
  subst ed
  obtain ⟨a, xs, rfl, hq, ha⟩ := dp_lst d2
  refine ⟨a, rfl, ⟨xs, c2.fh.seq hq⟩, for_list (xs := xs) (fun i σ H => ∃ F l e o, P i e o ∧ Cf K F0 B l0 F H l o σ e ∧ Same F2 F) ⟨F2, l, env, o2, h0, c2, Same.refl _⟩ (fun i σ H _ ⟨F, l, e, o, p, c, s⟩ => c.fh.seq (s.seq hq)) (fun i x σ H hi ⟨F, l, e, o, p, c, s⟩ => ?_)
    fun σ H ⟨F, l, e, o, p, c, s⟩ => k.nx F H l σ e o (hd e o (by rw [← dpa_len ha]; exact p)) c⟩
  obtain ⟨d, hd1, hd2⟩ := dpa_of ha hi
  obtain ⟨e2, hg, hb⟩ := hs i d e o hd1 p
  refine hg F0 B l0 F H l σ o x c (dp_up s hd2) _ fun σ2 c3 => ?_
  -- the list walked stays: F2 is within the entry's facts of the turn
  have c4 : Cf K F2 B l0 F H l o σ2 e2 := ⟨s, c3.bh, c3.fh, fun a u q => by
    rcases c3.nw a u q with z | z
    · exact .inl (c2.ff a u z)
    · exact .inr z, c3.sat, c3.own, c3.fx⟩
  have back : ∀ {F H : Hp} {l : Addr} {σ : L2.St} {e : List Sl} {o : OS}, Cf K F2 B l0 F H l o σ e → Cf K F0 B l0 F H l o σ e := fun {F H l σ e o} c => ⟨c2.ff.trans c.ff, c.bh, c.fh, fun a u q => by
    rcases c.nw a u q with z | z
    · exact c2.nw a u z
    · exact .inr z, c.sat, c.own, c.fx⟩
  exact hb F2 B F H l σ2 c4 _ ⟨fun F H l σ e o p c => ⟨F, l, e, o, p, back c, c.ff⟩, fun v F H l σ e d o r c dv => k.rt v F H l σ e d o r (back c) dv, fun F H l σ e o n c => k.nx F H l σ e o n (back c), fun F H l σ e o p c => ⟨F, l, e, o, p, back c, c.ff⟩⟩
theorem s_forT {tl : TE} {ds : List PyData} (P : Nat → PN) (h : EvD K tl env o (.tuple ds)) (h0 : P 0 env o) (hs : ∀ (i : Nat) d e o, ds[i]? = some d → P i e o → ∃ e2, TgD K g d e e2 ∧ SD K l0 t e2 o (P (i + 1)) R N (P (i + 1))) (hd : ∀ e o, P ds.length e o → N e o) :
    SD K l0 (tFor (iTup K tl) g t) env o N R Bk Ct := fun F0 B F H l σ c D k => h F0 B l0 F H l σ c _ fun v F2 H2 c2 _ d2 => by
  obtain ⟨a, xs, rfl, hq, ha⟩ := dp_tup d2
  refine ⟨a, rfl, ⟨xs, same_tup c2.fh hq⟩, for_tup (xs := xs) (fun i σ H => ∃ F l e o, P i e o ∧ Cf K F0 B l0 F H l o σ e ∧ Same F2 F) ⟨F2, l, env, o, h0, c2, Same.refl _⟩ (fun i σ H _ ⟨F, l, e, o, p, c, s⟩ => same_tup c.fh (same_tup s hq)) (fun i x σ H hi ⟨F, l, e, o, p, c, s⟩ => ?_)
    fun σ H ⟨F, l, e, o, p, c, s⟩ => k.nx F H l σ e o (hd e o (by rw [← dpa_len ha]; exact p)) c⟩
  obtain ⟨d, hd1, hd2⟩ := dpa_of ha hi
  obtain ⟨e2, hg, hb⟩ := hs i d e o hd1 p
  refine hg F0 B l0 F H l σ o x c (dp_up s hd2) _ fun σ2 c3 => ?_
  have c4 : Cf K F2 B l0 F H l o σ2 e2 := ⟨s, c3.bh, c3.fh, fun a u q => by
    rcases c3.nw a u q with z | z
    · exact .inl (c2.ff a u z)
    · exact .inr z, c3.sat, c3.own, c3.fx⟩
  have back : ∀ {F H : Hp} {l : Addr} {σ : L2.St} {e : List Sl} {o : OS}, Cf K F2 B l0 F H l o σ e → Cf K F0 B l0 F H l o σ e := fun {F H l σ e o} c => ⟨c2.ff.trans c.ff, c.bh, c.fh, fun a u q => by
    rcases c.nw a u q with z | z
    · exact c2.nw a u z
    · exact .inr z, c.sat, c.own, c.fx⟩
  exact hb F2 B F H l σ2 c4 _ ⟨fun F H l σ e o p c => ⟨F, l, e, o, p, back c, c.ff⟩, fun v F H l σ e d o r c dv => k.rt v F H l σ e d o r (back c) dv, fun F H l σ e o n c => k.nx F H l σ e o n (back c), fun F H l σ e o p c => ⟨F, l, e, o, p, back c, c.ff⟩⟩
end

/-! ### a def -/
/-- a def that keeps its promise, by its global name -/
structure Ok (P : Program) (w : World) (K : Fg) (mg : Str → Option Value) (base : Heap) (k : Nat) (x : Str) (ps : List Str) (sp : Sp) : Prop where
  ex : ∃ f fd, mg x = some (.ref f) ∧ PySem.W.keepIn K (.ref f) = true ∧ Binds K fd ps [] ∧ FnOk P w K mg base CX0 k f fd ps sp
/-- a def where it stands -/
structure DefAt (K : Fg) (mg : Str → Option Value) (x n : Str) (st : Stmt) (ps : List Str) : Prop where
  ex : ∃ f fd, mg x = some (.ref f) ∧ FunD K n n (defArgs st) (defBody st) (defScope st) [] [] f fd ∧ Binds K fd ps []
section
variable {P : Program} {w : World} {K : Fg} {mg : Str → Option Value} {base : Heap}
def envOf (N : List Str) (ds : List PyData) : List Sl := ds.map Sl.d ++ List.replicate (N.length - ds.length) Sl.no
theorem sat_start {F : Hp} {l : Addr} {N : List Str} {vs : List V} {ds : List PyData} (h : DpAll K F vs ds) : Sat K F l (L2.start N vs) (envOf N ds) := by
  have hl := dpa_len h
  unfold L2.start envOf
  refine ⟨by simp [hl], fun i s e => ?_⟩
  by_cases hi : i < ds.length
  · rw [List.getElem?_append_left (by simpa using hi), List.getElem?_map] at e
    rw [List.getElem?_append_left (by simp [hl]; exact hi), List.getElem?_map]
    have e1 : ds[i]? = some ds[i] := List.getElem?_eq_getElem hi
    rw [e1] at e
    have e2 := Option.some.inj e
    subst e2
    obtain ⟨v, h1, h2⟩ := dpa_get h e1
    rw [h1]
    exact ⟨some v, rfl, v, rfl, h2⟩
  · rw [List.getElem?_append_right (by simp; omega), List.length_map] at e
    rw [List.getElem?_append_right (by simp [hl]; omega), List.length_map, hl]
    obtain ⟨h1, h2⟩ := List.getElem?_eq_some_iff.mp e
    rw [List.length_replicate] at h1
    rw [List.getElem_replicate] at h2
    subst h2
    exact ⟨none, by rw [List.getElem?_replicate, if_pos h1], trivial⟩
abbrev CxD (P : Program) (w : World) (K : Fg) (mg : Str → Option Value) (base : Heap) (N : List Str) (n : Str) (st : Stmt) (f : Addr) (cdv : Value) (A : Around) (outer : List Env) (s : Shared) (H : Hp) (E : XK) : Cx := (cxOf CX0 P w K mg base N n (defScope st) f cdv A outer s H E).nox
/-- a pure def keeps its promise -/
theorem ok_pure {x n : Str} {st : Stmt} {N ps : List Str} {k : Nat} {R : List PyData → PyData → Prop} (D : DefAt K mg x n st ps) (sc : FnScope N ps (defScope st)) (len : ∀ ds d, R ds d → ds.length = ps.length)
    (body : ∀ (f : Addr) (cdv : Value) (A : Around) (outer : List Env) (s : Shared) (H : Hp) (E : XK), Room k (CxD P w K mg base N n st f cdv A outer s H E).A →
      ∃ t, PSs (CxD P w K mg base N n st f cdv A outer s H E) (defBody st) t ∧ ∀ ds d, R ds d → SD K none t (envOf N ds) none (fun _ _ => False) (fun d' _ => d' = d) (fun _ _ => False) (fun _ _ => False)) : Ok P w K mg base (k + 1) x ps (spD K R) := by
  obtain ⟨f, fd, hm, F, hb⟩ := D.ex
  refine ⟨f, fd, hm, F.kp, hb, F.ok sc (fun vs H Q E ⟨G, ds, d, _, h1, h2, _⟩ => by rw [dpa_len h1]; exact len ds d h2) fun cdv A outer s H vs Q E hr ⟨G, ds, d, hs, hd, hR, hq⟩ => ?_⟩
  obtain ⟨t, ht, h⟩ := body f cdv A outer s H E hr
  refine ⟨t, ht.nox, h ds d hR G H G H 0 _ ⟨Same.refl _, Same.refl _, hs, fun a u e => .inl e, sat_start hd, fun _ e => (nomatch e), fun _ e => (nomatch e)⟩ _ ⟨fun _ _ _ _ _ _ z => z.elim, fun v F2 H2 l σ e d' o' ed c dv => ?_, fun _ _ _ _ _ _ z => z.elim, fun _ _ _ _ _ _ z => z.elim⟩⟩
  subst ed
  exact hq v F2 H2 c.bh c.ff c.fh c.nw dv
/-- a def that changes its first argument, our own list -/
theorem ok_own {x n : Str} {st : Stmt} {N ps : List Str} {k : Nat} {Pre : List PyData → List PyData → Prop} {Post : List PyData → List PyData → PyData → List PyData → Prop} (D : DefAt K mg x n st ps) (sc : FnScope N ps (defScope st)) (len : ∀ ds cs, Pre ds cs → ds.length + 1 = ps.length)
    (body : ∀ (f : Addr) (cdv : Value) (A : Around) (outer : List Env) (s : Shared) (H : Hp) (E : XK), Room k (CxD P w K mg base N n st f cdv A outer s H E).A →
      ∃ t, PSs (CxD P w K mg base N n st f cdv A outer s H E) (defBody st) t ∧ ∀ l ds cs, Pre ds cs → SD K (some l) t ((envOf N (.none :: ds)).set 0 .own) (some cs) (fun _ _ => False) (fun d' o' => ∃ es, o' = some es ∧ Post ds cs d' es) (fun _ _ => False) (fun _ _ => False)) :
    Ok P w K mg base (k + 1) x ps (spS K Pre Post) := by
  obtain ⟨f, fd, hm, F, hb⟩ := D.ex
  refine ⟨f, fd, hm, F.kp, hb, F.ok sc (fun vs H Q E ⟨G, l, ws, ds, cs, e, _, h1, _, _, h2, _⟩ => by rw [e, List.length_cons, dpa_len h1]; exact len ds cs h2) fun cdv A outer s H vs Q E hr ⟨G, l, ws, ds, cs, e, hs, hd, hn, ⟨xs, hx1, hx2⟩, hP, hq⟩ => ?_⟩
  subst e
  obtain ⟨t, ht, h⟩ := body f cdv A outer s H E hr
  have hd' : DpAll K G (.non :: ws) (.none :: ds) := .cons .non hd
  have st0 := sat_set (s := .own) (o := some (.ref l)) (sat_start (N := N) (l := l) hd') rfl 0
  have e0 : (L2.start N (.non :: ws)).set 0 (some (.ref l)) = L2.start N (.ref l :: ws) := rfl
  rw [e0] at st0
  refine ⟨t, ht.nox, h l ds cs hP G (rm H l) G H l _ ⟨Same.refl _, rm_same H l, hs, fun a u e => .inl e, st0, fun _ e => ?_, fun a e => Option.some.inj e⟩ _ ⟨fun _ _ _ _ _ _ z => z.elim, fun v F2 H2 l2 σ e d' o' ⟨es, eo, hp⟩ c dv => ?_, fun _ _ _ _ _ _ z => z.elim, fun _ _ _ _ _ _ z => z.elim⟩⟩
  · cases e
    exact ⟨hn, rm_at H l, xs, hx1, hx2⟩
  · have el := c.fx l rfl
    subst el
    obtain ⟨k1, k2, ys, k3, k4⟩ := c.own es eo
    exact hq v F2 H2 d' es hp c.bh c.ff c.fh c.nw k1 ⟨ys, k3, k4⟩ dv
/-- a call by a kept promise -/
theorem pe_callO {X : Cx} {k : Nat} {x : Str} {ps : List Str} {sp : Sp} {p pos : Pos} {e : Expr} {es : List Expr} {t : TA} (G : Ok X.prog X.w X.K X.mg X.base k x ps sp) (hr : Room k X.A) (hg : Gl X x) (ha : PA X (e :: es) t)
    (hdb : (x == ("__debug__" : Str)) = false := by decide) (he : starEach (e :: es) X.env = (false, eval e X.env) :: starEach es X.env := by rfl) (hpl : (backTo pos (starEach es X.env)).any (·.1) = false := by rfl) :
    PE X (.Call (.Name x p) (e :: es) [] pos) (tCall sp [] E0 t) := by
  obtain ⟨f, fd, hm, hk, hb, F⟩ := G.ex
  exact pe_call F hr hg hm hk hb .nil pass0 ha hdb he hpl
end
end Kx
namespace Kx
open PySem PySem.Spec PyProof.Rows L2
/-! ### a def whose answer is told by a relation -/
def spP (K : Fg) (Pre : List PyData → Prop) (Post : List PyData → PyData → Prop) : Sp := fun vs H Q _ => ∃ (F : Hp) (ds : List PyData), Same F H ∧ DpAll K F vs ds ∧ Pre ds ∧
  ∀ (v : V) (F2 H2 : Hp) (d : PyData), Post ds d → Same H H2 → Same F F2 → Same F2 H2 → (∀ a u, F2 a = some u → F a = some u ∨ H a = none) → Dp K F2 v d → Q v H2
section
variable {K : Fg} {env : List Sl} {o : OS} {R : PyData → OS → Prop}
theorem EvA.toR {ta : TA} {ds : List PyData} {R : List PyData → OS → Prop} (h : EvA K ta env o ds) (hr : R ds o) : EvAR K ta env o R := fun F0 B l0 F H l σ c Q q => h F0 B l0 F H l σ c Q fun vs F2 H2 c2 e dp => q vs F2 H2 ds o hr c2 e dp
theorem er_callP {Pre : List PyData → Prop} {Post : List PyData → PyData → Prop} {E : XK} {ta : TA} (h : EvAR K ta env o fun ds o2 => Pre ds ∧ ∀ d, Post ds d → R d o2) : EvR K (tCall (spP K Pre Post) [] E ta) env o R := fun F0 B l0 F H l σ c Q q =>
  h F0 B l0 F H l σ c _ fun vs F2 H2 ds o2 ⟨hp, hR⟩ c2 e2 d2 => ⟨F2, ds, c2.fh, by rw [List.append_nil]; exact d2, hp, fun v F3 H3 d hq h1 h2 h3 h4 d3 => q v F3 H3 d o2 (hR d hq) (c2.grow h1 h2 h3 h4) (e2.trans h2) d3⟩
theorem er_callP' {Pre : List PyData → Prop} {Post : List PyData → PyData → Prop} {E : XK} {ta : TA} {ds : List PyData} (h : EvA K ta env o ds) (hp : Pre ds) (hR : ∀ d, Post ds d → R d o) : EvR K (tCall (spP K Pre Post) [] E ta) env o R := er_callP (h.toR ⟨hp, hR⟩)
variable {P : Program} {w : World} {mg : Str → Option Value} {base : Heap}
theorem ok_rel {x n : Str} {st : Stmt} {N ps : List Str} {k : Nat} {Pre : List PyData → Prop} {Post : List PyData → PyData → Prop} (D : DefAt K mg x n st ps) (sc : FnScope N ps (defScope st)) (len : ∀ ds, Pre ds → ds.length = ps.length)
    (body : ∀ (f : Addr) (cdv : Value) (A : Around) (outer : List Env) (s : Shared) (H : Hp) (E : XK), Room k (CxD P w K mg base N n st f cdv A outer s H E).A →
      ∃ t, PSs (CxD P w K mg base N n st f cdv A outer s H E) (defBody st) t ∧ ∀ ds, Pre ds → SD K none t (envOf N ds) none (fun _ _ => False) (fun d' _ => Post ds d') (fun _ _ => False) (fun _ _ => False)) : Ok P w K mg base (k + 1) x ps (spP K Pre Post) := by
  obtain ⟨f, fd, hm, F, hb⟩ := D.ex
  refine ⟨f, fd, hm, F.kp, hb, F.ok sc (fun vs H Q E ⟨G, ds, _, h1, h2, _⟩ => by rw [dpa_len h1]; exact len ds h2) fun cdv A outer s H vs Q E hr ⟨G, ds, hs, hd, hR, hq⟩ => ?_⟩
  obtain ⟨t, ht, h⟩ := body f cdv A outer s H E hr
  exact ⟨t, ht.nox, h ds hR G H G H 0 _ ⟨Same.refl _, Same.refl _, hs, fun a u e => .inl e, sat_start hd, fun _ e => (nomatch e), fun _ e => (nomatch e)⟩ _ ⟨fun _ _ _ _ _ _ z => z.elim, fun v F2 H2 l σ e d' o' hp c dv => hq v F2 H2 d' hp c.bh c.ff c.fh c.nw dv, fun _ _ _ _ _ _ z => z.elim, fun _ _ _ _ _ _ z => z.elim⟩⟩
end
end Kx

-- Kb
set_option maxHeartbeats 2000000
/-! The text by places; sizes of numbers; what the module's top leaves. -/
namespace Kx
open PySem PySem.Spec PyProof.Rows L2
def top (i : Nat) : Stmt := PySem.Challenge.pw_wholeconic_k15_whole_alike_exactly.main.body.getD i (.Pass ⟨0, 0, 0, 0⟩)
structure Md (K : Fg) (mg : Str → Option Value) : Prop where
  abs : mg "abs" = none
  range : mg "range" = none
  len : mg "len" = none
  int : mg "int" = none
  tuple : mg "tuple" = none
  isinstance : mg "isinstance" = none
  min : mg "min" = none
  isqrt : mg "isqrt" = some (.builtin "math.isqrt")
  unit : ∃ a, mg "UNIT" = some (.ref a) ∧ ∀ H : Hp, SqT K H a [.int 1, .int 0, .int 0, .int 1]
  mirror : ∃ a, mg "MIRROR" = some (.ref a) ∧ ∀ H : Hp, SqT K H a [.int 1, .int 0, .int 0, .int (-1)]
abbrev fm (a b c : Int) : PyData := .tuple [.int a, .int b, .int c]
abbrev mt (p q r s : Int) : PyData := .tuple [.int p, .int q, .int r, .int s]
abbrev pt (x y : Int) : PyData := .tuple [.int x, .int y]
theorem ev_quad {K : Fg} {env : List Sl} {o : OS} {a : Addr} {p q r s : Int} (h : ∀ H : Hp, SqT K H a [.int p, .int q, .int r, .int s]) : EvD K (tC (.ref a)) env o (mt p q r s) :=
  ev_con h fun _ => .cons (.int _) (.cons (.int _) (.cons (.int _) (.cons (.int _) .nil)))

/-! ### sizes -/
def Bd (n : Nat) (i : Int) : Prop := i.natAbs < 2 ^ n
theorem Bd.mono {n m : Nat} {i : Int} (h : Bd n i) (k : n ≤ m) : Bd m i := Nat.lt_of_lt_of_le h (Nat.pow_le_pow_right (by decide) k)
theorem Bd.neg {n : Nat} {i : Int} (h : Bd n i) : Bd n (-i) := by
  unfold Bd at *
  rw [Int.natAbs_neg]
  exact h
theorem Bd.mul {n m : Nat} {i j : Int} (h : Bd n i) (k : Bd m j) : Bd (n + m) (i * j) := by
  unfold Bd at *
  rw [Int.natAbs_mul, Nat.pow_add]
  exact Nat.mul_lt_mul'' h k
theorem Bd.add {n m : Nat} {i j : Int} (h : Bd n i) (k : Bd m j) : Bd (max n m + 1) (i + j) := by
  have h1 := h.mono (Nat.le_max_left n m)
  have k1 := k.mono (Nat.le_max_right n m)
  unfold Bd at *
  have := Int.natAbs_add_le i j
  rw [Nat.pow_succ]
  omega
theorem Bd.sub {n m : Nat} {i j : Int} (h : Bd n i) (k : Bd m j) : Bd (max n m + 1) (i - j) := by
  rw [Int.sub_eq_add_neg]
  exact h.add k.neg
theorem Bd.lit {i : Int} (h : i.natAbs < 2 ^ 40) : Bd 40 i := h
theorem Bd.of {n : Nat} {i : Int} (h : i.natAbs < 2 ^ n) : Bd n i := h
theorem Bd.log {n : Nat} {i : Int} (h : Bd n i) (h0 : 0 < n) : i.natAbs.log2 < n := PySem.Flt.log2_lt_of h0 h
theorem mulok {n m : Nat} {i j : Int} (h : Bd n i) (k : Bd m j) (hh : n + m ≤ 1000000) : IntMulOk i j := by
  have h1 := (h.mono (Nat.le_succ n)).log (Nat.succ_pos n)
  have k1 := (k.mono (Nat.le_succ m)).log (Nat.succ_pos m)
  by_cases hn : n + m < 999998
  · exact CMulW.ok (show _ + _ < _ by omega)
  · by_cases h0 : n = 0
    · subst h0
      have : i = 0 := by
        unfold Bd at h
        omega
      subst this
      exact .of_left (by decide)
    · by_cases m0 : m = 0
      · subst m0
        have : j = 0 := by
          unfold Bd at k
          omega
        subst this
        exact .of_right (by decide)
      · have h2 := h.log (by omega)
        have k2 := k.log (by omega)
        exact CMulW.ok (show _ + _ < _ by omega)
theorem mulok_l {i j : Int} (h : Bd 60 i) : IntMulOk i j := by
  have h1 : i.natAbs < 2 ^ 60 := h
  exact .of_left (intBits_le_64 (by omega) (by omega))
theorem mulok_r {i j : Int} (h : Bd 60 j) : IntMulOk i j := by
  have h1 : j.natAbs < 2 ^ 60 := h
  exact .of_right (intBits_le_64 (by omega) (by omega))
theorem cfd {n : Nat} {i j : Int} (h0 : j ≠ 0) (h : Bd n j) (hn : n < 9000) : CFd i j := ⟨h0, Nat.lt_of_lt_of_le ((h.mono (Nat.le_succ n)).log (Nat.succ_pos n)) (by omega)⟩

/-! ### == and != -/
section
variable {K : Fg}
theorem eqv_int (a b : Int) : PyData.eqv (.int a) (.int b) = decide (a = b) := by
  show (a == b) = decide (a = b)
  exact Bool.beq_eq_decide_eq a b
theorem eqv_str (a b : Str) : PyData.eqv (.str a) (.str b) = decide (a = b) := by
  show (a == b) = decide (a = b)
  exact Bool.beq_eq_decide_eq a b
theorem eqv_fm (a b c x y z : Int) : PyData.eqv (fm a b c) (fm x y z) = decide (a = x ∧ b = y ∧ c = z) := by
  show (PyData.eqv (.int a) (.int x) && (PyData.eqv (.int b) (.int y) && (PyData.eqv (.int c) (.int z) && true))) = _
  rw [eqv_int, eqv_int, eqv_int, Bool.and_true]
  by_cases h1 : a = x <;> by_cases h2 : b = y <;> by_cases h3 : c = z <;> simp [h1, h2, h3]
theorem shaped_fm (a b c : Int) : SeqAt.shaped (fm a b c) = true := rfl
theorem rv_eqI {a b : Int} : RvD K (rEqD K) (.int a) (.int b) (.bool (decide (a = b))) := by
  rw [← eqv_int]
  exact rv_eqD rfl rfl
theorem rv_neI {a b : Int} : RvD K (rNeD K) (.int a) (.int b) (.bool (!decide (a = b))) := by
  rw [← eqv_int]
  exact rv_neD rfl rfl
theorem rv_eqS {a b : Str} (ha : SeqAt.shaped (.str a) = true := by decide +kernel) (hb : SeqAt.shaped (.str b) = true := by decide +kernel) : RvD K (rEqD K) (.str a) (.str b) (.bool (decide (a = b))) := by
  rw [← eqv_str]
  exact rv_eqD ha hb
theorem rv_eqF {a b c x y z : Int} : RvD K (rEqD K) (fm a b c) (fm x y z) (.bool (decide (a = x ∧ b = y ∧ c = z))) := by
  rw [← eqv_fm]
  exact rv_eqD rfl rfl
theorem rv_neF {a b c x y z : Int} : RvD K (rNeD K) (fm a b c) (fm x y z) (.bool (!decide (a = x ∧ b = y ∧ c = z))) := by
  rw [← eqv_fm]
  exact rv_neD rfl rfl
end
/-! ### targets from a tuple or a list -/
section
variable {X : Cx} {pos : Pos}
def gAny (K : Fg) (n : Nat) (t : TGs) : TG := fun v σ H Q => gTup K n t v σ H Q ∨ gUnl K n t v σ H Q
theorem pg_any {es : List Expr} {k : Nat} {t : TGs} {n : Nat} (hc : X.calm = true) (h : PGs X es t)
    (hn : (assignEach es X.env).length = n := by rfl) (hst : (assignEach es X.env).findIdx? (·.1) = none := by rfl) : PG X (.Tuple es k pos) (gAny X.K n t) :=
  ⟨fun pins s σ H v u Q inv r hyp => hyp.elim (fun q => (pg_tup hc h hn hst).run pins s σ H v u Q inv r q) fun q => (pg_unl hc h hn hst).run pins s σ H v u Q inv r q⟩
theorem tg_anyT {K : Fg} {env env' : List Sl} {h : TGs} {ds : List PyData} {n : Nat} (hh : TgsD K h ds env env') (hn : ds.length = n := by rfl) : TgD K (gAny K n h) (.tuple ds) env env' := fun F0 B l0 F H l σ o v c dv Q q => .inl (tg_tup hh hn F0 B l0 F H l σ o v c dv Q q)
theorem tg_anyL {K : Fg} {env env' : List Sl} {h : TGs} {ds : List PyData} {n : Nat} (hh : TgsD K h ds env env') (hn : ds.length = n := by rfl) : TgD K (gAny K n h) (.list ds) env env' := fun F0 B l0 F H l σ o v c dv Q q => .inr (tg_unl hh hn F0 B l0 F H l σ o v c dv Q q)
end
end Kx

-- Ka
set_option maxHeartbeats 2000000
/-! What the defs compute, as plain functions; three chained comparisons. -/
namespace Kx
open PySem PySem.Spec PyProof.Rows L2
section
variable {K : Fg} {env : List Sl} {o : OS} {ta tb tc td : TE} {x y z u : PyData}
theorem et_chain3 {r r' r'' : R2} {a b c : Bool} (ha : EvD K ta env o x) (hb : EvD K tb env o y) (h1 : RvD K r x y (.bool a)) (hc : a = true → EvD K tc env o z) (h2 : a = true → RvD K r' y z (.bool b))
    (hd : a = true → b = true → EvD K td env o u) (h3 : a = true → b = true → RvD K r'' z u (.bool c)) : EvT K (tChain3 r r' r'' ta tb tc td) env o (a && (b && c)) := fun F0 B l0 F H l σ cf Q q =>
  ha F0 B l0 F H l σ cf _ fun v F2 H2 c2 e2 d2 => hb F0 B l0 F2 H2 l σ c2 _ fun w F3 H3 c3 e3 d3 => h1 F3 H3 v w c3.fh (dp_up e3 d2) d3 _ fun k F4 H4 ly d4 => ⟨a, dp_bl d4, by
    obtain ⟨c4, e4⟩ := ly.cf c3
    cases a with
    | false =>
      show Q false H4
      exact q F4 H4 c4 ((e2.trans e3).trans e4)
    | true =>
      show tc σ H4 _
      refine hc rfl F0 B l0 F4 H4 l σ c4 _ fun w5 F5 H5 c5 e5 d5 => h2 rfl F5 H5 w w5 c5.fh (dp_up (e4.trans e5) d3) d5 _ fun k2 F6 H6 ly6 d6 => ⟨b, dp_bl d6, ?_⟩
      obtain ⟨c6, e6⟩ := ly6.cf c5
      have e06 := (((e2.trans e3).trans e4).trans e5).trans e6
      cases b with
      | false =>
        show Q false H6
        exact q F6 H6 c6 e06
      | true =>
        show td σ H6 _
        refine hd rfl rfl F0 B l0 F6 H6 l σ c6 _ fun w7 F7 H7 c7 e7 d7 => h3 rfl rfl F7 H7 w5 w7 c7.fh (dp_up (e6.trans e7) d5) d7 _ fun k3 F8 H8 ly8 d8 => ⟨c, dp_bl d8, ?_⟩
        obtain ⟨c8, e8⟩ := ly8.cf c7
        exact q F8 H8 c8 ((e06.trans e7).trans e8)⟩
end
section
variable {X : Cx} {K : Fg}
theorem ix_tupK (h : X.K = K) : IxR X (rIxT K) := by
  subst h
  exact ix_tup
theorem ix_listK (h : X.K = K) : IxR X (rIxL K) := by
  subst h
  exact ix_list
theorem op_eqDK (h : X.K = K) (hu : X.A.units + 64 < cLine) : OpR X (compareOp .Eq) (rEqD K) := by
  subst h
  exact op_eqD hu
theorem op_neDK (h : X.K = K) (hu : X.A.units + 64 < cLine) : OpR X (compareOp .NotEq) (rNeD K) := by
  subst h
  exact op_neD hu
theorem op_catK (h : X.K = K) : OpR X (binaryOp .Add) (rCatS K) := by
  subst h
  exact op_catS
theorem cr_lenK (h : X.K = K) : CallR X (.builtin "len") (rLenQ K) := by
  subst h
  exact call_len_seq
theorem cr_tupK (h : X.K = K) : CallR X (.type "tuple") (rTupOf K) := by
  subst h
  exact call_tuple_of
theorem cr_minDK (h : X.K = K) (hc : X.calm = true) (hu : X.A.units + 64 < cLine) : CallR X (.builtin "min") (rMinD K) := by
  subst h
  exact cr_minD hc hu
theorem cr_isiK (h : X.K = K) : CallR X (.builtin "isinstance") (rIsi K) := by
  subst h
  exact call_isi
theorem sl_tupK (h : X.K = K) : SlR X (rSlT K) := by
  subst h
  exact sl_tup
theorem pi_listK {tg l : Expr} {tl : TE} (h : X.K = K) (hl : PE X l tl) : PI X tg l (iList K tl) := by
  subst h
  exact pi_list hl
theorem pi_tupK {tg l : Expr} {tl : TE} (h : X.K = K) (hl : PE X l tl) : PI X tg l (iTup K tl) := by
  subst h
  exact pi_tup hl
theorem pg_tupK {pos : Pos} {es : List Expr} {k : Nat} {t : TGs} (n : Nat) (hK : X.K = K) (hc : X.calm = true) (h : PGs X es t)
    (hn : (assignEach es X.env).length = n) (hst : (assignEach es X.env).findIdx? (·.1) = none) : PG X (.Tuple es k pos) (gTup K n t) := by
  subst hK
  exact pg_tup hc h hn hst
theorem pg_unlK {pos : Pos} {es : List Expr} {k : Nat} {t : TGs} (n : Nat) (hK : X.K = K) (hc : X.calm = true) (h : PGs X es t)
    (hn : (assignEach es X.env).length = n) (hst : (assignEach es X.env).findIdx? (·.1) = none) : PG X (.Tuple es k pos) (gUnl K n t) := by
  subst hK
  exact pg_unl hc h hn hst
theorem pg_anyK {pos : Pos} {es : List Expr} {k : Nat} {t : TGs} (n : Nat) (hK : X.K = K) (hc : X.calm = true) (h : PGs X es t)
    (hn : (assignEach es X.env).length = n) (hst : (assignEach es X.env).findIdx? (·.1) = none) : PG X (.Tuple es k pos) (gAny K n t) := by
  subst hK
  exact pg_any hc h hn hst
theorem pe_appK {o e : Expr} {to te : TE} {apos cpos : Pos} (h : X.K = K) (ho : PE X o to) (he : PE X e te)
    (hbase : attributeBase o "append" X.env (eval o X.env) = eval o X.env := by rfl)
    (hfew : ((backTo cpos (starEach [e] X.env)).all (fun x => !x.1) && (backToKw cpos (keywordEach [] X.env)).all (fun x => x.1.isSome)
      && decide ([e].length + ([] : List Keyword).length + (if ([] : List Keyword).isEmpty then 0 else 1) < 30)) = true := by rfl)
    (hline : (apos.endLine == cpos.line) = true := by rfl) (hs : starEach [e] X.env = (false, eval e X.env) :: starEach [] X.env := by rfl) (hplain : (backTo cpos (starEach [] X.env)).any (·.1) = false := by rfl) :
    PE X (.Call (.Attribute o "append" apos) [e] [] cpos) (tBM K "list" rAppend to (tCons te tNil)) := by
  subst h
  exact pe_bm PySem.F.plainAttrs_list PySem.F.slot_list_append PySem.F.type_list_append mt_append ho (pa_cons he pa_nil hs) hbase hfew hline hs hplain
end
theorem isq_spec (n : Int) (h : 0 ≤ n) : 0 ≤ isq n ∧ isq n * isq n ≤ n ∧ n < (isq n + 1) * (isq n + 1) := by
  obtain ⟨h1, h2⟩ := Float64.isqrt_spec n.toNat
  unfold isq
  have e : ((n.toNat : Nat) : Int) = n := Int.toNat_of_nonneg h
  refine ⟨Int.natCast_nonneg _, ?_, ?_⟩
  · rw [← Int.natCast_mul]
    rw [← e]
    exact Int.ofNat_le.mpr (by rw [Int.toNat_natCast]; exact h1)
  · have e2 : (((Float64.isqrt n.toNat : Nat) : Int) + 1) * (((Float64.isqrt n.toNat : Nat) : Int) + 1) = (((Float64.isqrt n.toNat + 1) * (Float64.isqrt n.toNat + 1) : Nat) : Int) := by
      rw [Int.natCast_mul, Int.natCast_add]
      rfl
    rw [e2]
    have h3 : ((n.toNat : Nat) : Int) < (((Float64.isqrt n.toNat + 1) * (Float64.isqrt n.toNat + 1) : Nat) : Int) := Int.ofNat_lt.mpr h2
    rw [e] at h3
    exact h3
abbrev dsc (a b c : Int) : Int := b * b - 4 * a * c
abbrev wv (a b c x y : Int) : Int := a * x * x + b * x * y + c * y * y
abbrev am (a b c p q r s : Int) : Int := 2 * a * p * q + b * (p * s + q * r) + 2 * c * r * s
def gl (ns : List Int) : Int := ns.foldl (fun g n => ((Int.gcd g n : Nat) : Int)) 0
def isSqB (n : Int) : Bool := decide (0 ≤ n) && decide (isq n * isq n = n)
def kn (D : Int) : Str := if D < 0 then "definite" else if D = 0 then "flat" else if isSqB D then "split" else "indefinite"
def rdB (a b c : Int) : Bool := decide (-a < b ∧ b ≤ a ∧ a ≤ c ∧ (0 ≤ b ∨ a < c))
end Kx

-- Mth
set_option maxHeartbeats 2000000
/-! Plain mathematics: no program here. -/
namespace Mth
theorem fdiv_spec (a b : Int) (hb : b ≠ 0) : a - a.fdiv b * b = a.fmod b ∧ (a.fmod b).natAbs < b.natAbs ∧ (a.fdiv b).natAbs ≤ a.natAbs := by
  have h1 : a - a.fdiv b * b = a.fmod b := by
    rw [Int.fmod_def, Int.mul_comm]
  refine ⟨h1, ?_⟩
  have pos : ∀ (a b : Int), 0 < b → (a.fmod b).natAbs < b.natAbs ∧ (a.fdiv b).natAbs ≤ a.natAbs := fun a b h => by
    have h2 := Int.fmod_nonneg_of_pos a h
    have h3 := Int.fmod_lt_of_pos a h
    refine ⟨by omega, ?_⟩
    rw [Int.fdiv_eq_ediv_of_nonneg a (by omega)]
    rcases Int.lt_or_le a 0 with k | k
    · have h4 : a ≤ a / b := Int.le_ediv_of_mul_le h (by
        have := Int.mul_le_mul_of_nonpos_left (show a ≤ 0 by omega) (show (1 : Int) ≤ b by omega)
        omega)
      have h5 : a / b < 0 := Int.ediv_neg_of_neg_of_pos k h
      omega
    · have h4 : 0 ≤ a / b := Int.ediv_nonneg k (by omega)
      have h5 : a / b ≤ a := Int.ediv_le_self b k
      omega
  rcases Int.lt_or_le 0 b with h | h
  · exact pos a b h
  · have h2 := pos (-a) (-b) (by omega)
    rw [Int.neg_fmod_neg, Int.neg_fdiv_neg] at h2
    omega
end Mth

-- Mth2
set_option maxHeartbeats 2000000
/-! Forms and matrices; a reduced definite form is alone in its class. -/
namespace Mth
@[ext] structure F3 where
  a : Int
  b : Int
  c : Int
@[ext] structure M4 where
  p : Int
  q : Int
  r : Int
  s : Int
def dscF (f : F3) : Int := f.b * f.b - 4 * f.a * f.c
def wvF (f : F3) (x y : Int) : Int := f.a * x * x + f.b * x * y + f.c * y * y
def actF (f : F3) (m : M4) : F3 := ⟨wvF f m.p m.r, 2 * f.a * m.p * m.q + f.b * (m.p * m.s + m.q * m.r) + 2 * f.c * m.r * m.s, wvF f m.q m.s⟩
def mulM (m n : M4) : M4 := ⟨m.p * n.p + m.q * n.r, m.p * n.q + m.q * n.s, m.r * n.p + m.s * n.r, m.r * n.q + m.s * n.s⟩
def detM (m : M4) : Int := m.p * m.s - m.q * m.r
def invM (m : M4) : M4 := ⟨m.s, -m.q, -m.r, m.p⟩
def one : M4 := ⟨1, 0, 0, 1⟩
def negF (f : F3) : F3 := ⟨-f.a, -f.b, -f.c⟩
theorem act_one (f : F3) : actF f one = f := by
  ext <;> simp [actF, one, wvF]
theorem act_mul (f : F3) (m n : M4) : actF (actF f m) n = actF f (mulM m n) := by
  ext <;> simp only [actF, mulM, wvF] <;> grind
theorem det_mul (m n : M4) : detM (mulM m n) = detM m * detM n := by
  simp only [detM, mulM]
  grind
theorem dsc_act (f : F3) (m : M4) : dscF (actF f m) = detM m * detM m * dscF f := by
  simp only [dscF, actF, wvF, detM]
  grind
theorem dsc_act1 {f : F3} {m : M4} (h : detM m = 1) : dscF (actF f m) = dscF f := by
  rw [dsc_act, h]
  grind
theorem act_inv {f : F3} {m : M4} (h : detM m = 1) : actF (actF f m) (invM m) = f := by
  rw [act_mul]
  have e : mulM m (invM m) = one := by
    simp only [detM] at h
    ext <;> simp only [mulM, invM, one] <;> grind
  rw [e, act_one]
theorem det_inv (m : M4) : detM (invM m) = detM m := by
  simp only [detM, invM]
  grind
theorem act_neg (f : F3) (m : M4) : actF (negF f) m = negF (actF f m) := by
  ext <;> simp only [actF, negF, wvF] <;> grind
theorem neg_neg (f : F3) : negF (negF f) = f := by
  ext <;> simp [negF]
theorem dsc_neg (f : F3) : dscF (negF f) = dscF f := by
  simp only [dscF, negF]
  grind
def red (f : F3) : Prop := -f.a < f.b ∧ f.b ≤ f.a ∧ f.a ≤ f.c ∧ (0 ≤ f.b ∨ f.a < f.c)
theorem low {a b c x y : Int} (h0 : 0 < a) (h1 : -a < b) (h2 : b ≤ a) (h3 : a ≤ c) (hy : y ≠ 0) : c ≤ a * x * x + b * x * y + c * y * y := by
  have hX : ((x.natAbs : Nat) : Int) * x.natAbs = x * x := Int.natAbs_mul_self
  have hY : ((y.natAbs : Nat) : Int) * y.natAbs = y * y := Int.natAbs_mul_self
  have hXY : ((x.natAbs : Nat) : Int) * y.natAbs = (x * y).natAbs := by
    rw [← Int.natCast_mul, ← Int.natAbs_mul]
  generalize hXe : ((x.natAbs : Nat) : Int) = X at *
  generalize hYe : ((y.natAbs : Nat) : Int) = Y at *
  have hY1 : 1 ≤ Y := by omega
  have hX0 : 0 ≤ X := by omega
  -- b x y is at least -a |x y|
  have k1 : -(a * (X * Y)) ≤ b * (x * y) := by
    have e1 : -(X * Y) ≤ x * y ∧ x * y ≤ X * Y := by omega
    have p1 := Int.mul_nonneg (show 0 ≤ a - b by omega) (show 0 ≤ X * Y - x * y by omega)
    have p2 := Int.mul_nonneg (show 0 ≤ a + b by omega) (show 0 ≤ X * Y + x * y by omega)
    grind
  have k2 := Int.mul_nonneg (show 0 ≤ c - a by omega) (show 0 ≤ Y * Y - 1 by
    have := Int.mul_le_mul hY1 hY1 (by decide) (by omega)
    omega)
  have k3 : 1 ≤ X * X - X * Y + Y * Y := by
    have s1 : 0 ≤ (2 * X - Y) * (2 * X - Y) := by
      rcases Int.le_total 0 (2 * X - Y) with h | h
      · exact Int.mul_nonneg h h
      · exact Int.mul_nonneg_of_nonpos_of_nonpos h h
    have s2 : 1 ≤ Y * Y := by
      have := Int.mul_le_mul hY1 hY1 (by decide) (by omega)
      omega
    have s3 : 4 * (X * X - X * Y + Y * Y) = (2 * X - Y) * (2 * X - Y) + 3 * (Y * Y) := by grind
    omega
  have k4 := Int.mul_le_mul_of_nonneg_left k3 (show 0 ≤ a by omega)
  grind
theorem unit_cases {p s : Int} (h : p * s = 1) : (p = 1 ∧ s = 1) ∨ (p = -1 ∧ s = -1) := by
  have h1 : p.natAbs * s.natAbs = 1 := by
    rw [← Int.natAbs_mul, h]
    rfl
  obtain ⟨h2, h3⟩ := (show p.natAbs = 1 ∧ s.natAbs = 1 from ⟨Nat.dvd_one.mp ⟨s.natAbs, h1.symm⟩, Nat.dvd_one.mp ⟨p.natAbs, by rw [Nat.mul_comm]; exact h1.symm⟩⟩)
  rcases Int.natAbs_eq p with e | e <;> rw [h2] at e
  · left
    refine ⟨e, ?_⟩
    rw [e] at h
    omega
  · right
    refine ⟨e, ?_⟩
    rw [e] at h
    omega
theorem red_unique {f : F3} {m : M4} (h0 : 0 < f.a) (h0' : 0 < (actF f m).a) (hf : red f) (hg : red (actF f m)) (hm : detM m = 1) : actF f m = f := by
  have hb := act_inv (f := f) hm
  have hd := dsc_act1 (f := f) hm
  generalize hge : actF f m = g at *
  obtain ⟨f1, f2, f3, f4⟩ := hf
  obtain ⟨g1, g2, g3, g4⟩ := hg
  have e1 : g.a = f.a * m.p * m.p + f.b * m.p * m.r + f.c * m.r * m.r := by rw [← hge]; rfl
  have e2 : g.b = 2 * f.a * m.p * m.q + f.b * (m.p * m.s + m.q * m.r) + 2 * f.c * m.r * m.s := by rw [← hge]; rfl
  have e4 : f.a = g.a * m.s * m.s + g.b * m.s * (-m.r) + g.c * (-m.r) * (-m.r) := by
    have := congrArg F3.a hb
    rw [← this]
    rfl
  simp only [detM] at hm
  simp only [dscF] at hd
  by_cases hr : m.r = 0
  · have hps : m.p * m.s = 1 := by rw [hr] at hm; omega
    have e5 : g.a = f.a := by
      rcases unit_cases hps with ⟨h, _⟩ | ⟨h, _⟩ <;> rw [hr, h] at e1 <;> omega
    have e6 : g.b = f.b + 2 * f.a * (m.p * m.q) := by
      rw [hr, hps] at e2
      grind
    have e7 : m.p * m.q = 0 := by
      generalize m.p * m.q = t at e6
      rcases Int.lt_trichotomy t 0 with h | h | h
      · have := Int.mul_le_mul_of_nonneg_left (show t ≤ -1 by omega) (show 0 ≤ f.a by omega)
        grind
      · exact h
      · have := Int.mul_le_mul_of_nonneg_left (show 1 ≤ t by omega) (show 0 ≤ f.a by omega)
        grind
    have e8 : g.b = f.b := by rw [e7] at e6; omega
    have e9 : g.c = f.c := by
      rw [e5, e8] at hd
      have : f.a * (g.c - f.c) = 0 := by grind
      rcases Int.mul_eq_zero.mp this with h | h <;> omega
    ext <;> assumption
  · have l1 := low h0 f1 f2 f3 hr (x := m.p)
    have l2 := low h0' g1 g2 g3 (show -m.r ≠ 0 by omega) (x := m.s)
    have e5 : g.a = f.a := by omega
    have e6 : g.c = f.c := by omega
    have e7 : f.a = f.c := by omega
    have e8 : g.b = f.b := by
      rw [e5, e6] at hd
      have : (g.b - f.b) * (g.b + f.b) = 0 := by grind
      rcases Int.mul_eq_zero.mp this with h | h <;> omega
    ext <;> assumption
end Mth

-- Mth3
set_option maxHeartbeats 2000000
/-! The reduction of a positive form: steps and a measure. -/
namespace Mth
theorem shift_up {a b : Int} (h : 0 < a) : -a < b + 2 * a * (a - b).fdiv (2 * a) ∧ b + 2 * a * (a - b).fdiv (2 * a) ≤ a := by
  have h1 := Int.fmod_nonneg_of_pos (a - b) (show 0 < 2 * a by omega)
  have h2 := Int.fmod_lt_of_pos (a - b) (show 0 < 2 * a by omega)
  have h3 := Int.mul_fdiv_add_fmod (a - b) (2 * a)
  generalize (a - b).fdiv (2 * a) = t at *
  generalize 2 * a * t = u at *
  omega
theorem shift_dn {a b : Int} (h : 0 < a) : -a < b - 2 * a * (b + a - 1).fdiv (2 * a) ∧ b - 2 * a * (b + a - 1).fdiv (2 * a) ≤ a := by
  have h1 := Int.fmod_nonneg_of_pos (b + a - 1) (show 0 < 2 * a by omega)
  have h2 := Int.fmod_lt_of_pos (b + a - 1) (show 0 < 2 * a by omega)
  have h3 := Int.mul_fdiv_add_fmod (b + a - 1) (2 * a)
  generalize (b + a - 1).fdiv (2 * a) = t at *
  generalize 2 * a * t = u at *
  omega
def nu (a : Nat) : Nat := if a ≤ 64 then a else 64 + a.log2
theorem nu_lt {a c : Nat} (h0 : 0 < c) (h : c < a) (h2 : 64 < a → 2 * c ≤ a) : nu c < nu a := by
  unfold nu
  by_cases ha : a ≤ 64
  · rw [if_pos ha, if_pos (by omega)]
    exact h
  · rw [if_neg ha]
    have h3 := h2 (by omega)
    have ha0 : a ≠ 0 := by omega
    by_cases hc : c ≤ 64
    · rw [if_pos hc]
      have : 6 ≤ a.log2 := (Nat.le_log2 ha0).mpr (by omega)
      omega
    · rw [if_neg hc]
      have h4 : c.log2 + 1 ≤ a.log2 := (Nat.le_log2 ha0).mpr (by
        have := Nat.log2_self_le (show c ≠ 0 by omega)
        rw [Nat.pow_succ]
        omega)
      omega
theorem nu_le {a : Nat} (h : a < 2 ^ 40) : nu a ≤ 104 := by
  unfold nu
  split
  · omega
  · rename_i h1
    have := (Nat.log2_lt (show a ≠ 0 by omega)).mpr h
    omega
theorem nu_mono {a c : Nat} (h : c ≤ a) : nu c ≤ nu a := by
  unfold nu
  by_cases ha : a ≤ 64
  · rw [if_pos ha, if_pos (by omega)]
    exact h
  · rw [if_neg ha]
    split
    · omega
    · have h4 : c.log2 ≤ a.log2 := (Nat.le_log2 (by omega)).mpr (Nat.le_trans (Nat.log2_self_le (by omega)) h)
      omega
theorem sq_le {a b : Int} (h1 : -a ≤ b) (h2 : b ≤ a) : b * b ≤ a * a := by
  have := Int.mul_nonneg (show 0 ≤ a - b by omega) (show 0 ≤ a + b by omega)
  grind
/-- a positive form whose middle is small -/
theorem norm_c {f : F3} (h0 : 0 < f.a) (h1 : -f.a ≤ f.b) (h2 : f.b ≤ f.a) (hD : dscF f < 0) (hD2 : -1300 ≤ dscF f) : 0 < f.c ∧ (64 < f.a → 2 * f.c ≤ f.a) ∧ 4 * f.c ≤ f.a + 1300 := by
  have hb := sq_le h1 h2
  unfold dscF at hD hD2
  have hbb : 0 ≤ f.b * f.b := by
    rcases Int.le_total 0 f.b with h | h
    · exact Int.mul_nonneg h h
    · exact Int.mul_nonneg_of_nonpos_of_nonpos h h
  have e : f.b * f.b - 4 * f.a * f.c = f.b * f.b - 4 * (f.a * f.c) := by grind
  rw [e] at hD hD2
  refine ⟨?_, fun h => ?_, ?_⟩
  · rcases Int.lt_or_le 0 f.c with h | h
    · exact h
    · have := Int.mul_nonneg (show 0 ≤ f.a by omega) (show 0 ≤ -f.c by omega)
      grind
  · rcases Int.lt_or_le f.a (2 * f.c) with k | k
    · have p1 := Int.mul_le_mul_of_nonneg_left (show f.a + 1 ≤ 2 * f.c by omega) (show 0 ≤ f.a by omega)
      have p2 := Int.mul_le_mul_of_nonneg_left (show 64 ≤ f.a by omega) (show 0 ≤ f.a by omega)
      grind
    · exact k
  · rcases Int.lt_or_le (f.a + 1300) (4 * f.c) with k | k
    · have p1 := Int.mul_le_mul_of_nonneg_left (show f.a + 1301 ≤ 4 * f.c by omega) (show 0 ≤ f.a by omega)
      grind
    · exact k
/-- c of a positive form is positive -/
theorem pos_c {f : F3} (h0 : 0 < f.a) (hD : dscF f < 0) : 0 < f.c := by
  unfold dscF at hD
  have hbb : 0 ≤ f.b * f.b := by
    rcases Int.le_total 0 f.b with h | h
    · exact Int.mul_nonneg h h
    · exact Int.mul_nonneg_of_nonpos_of_nonpos h h
  rcases Int.lt_or_le 0 f.c with h | h
  · exact h
  · have := Int.mul_nonneg (show 0 ≤ f.a by omega) (show 0 ≤ -f.c by omega)
    grind
def flips (f : F3) : Prop := f.a > f.c ∨ (f.a = f.c ∧ f.b < 0)
instance (f : F3) : Decidable (flips f) := inferInstanceAs (Decidable (_ ∨ _))
instance (f : F3) : Decidable (red f) := inferInstanceAs (Decidable (_ ∧ _))
def stepM (f : F3) : M4 := if flips f then ⟨0, -1, 1, 0⟩ else ⟨1, (f.a - f.b).fdiv (2 * f.a), 0, 1⟩
def mu (f : F3) : Nat := if red f then 0 else if f.a = f.c ∧ -f.a < f.b ∧ f.b < 0 then 1 else if flips f then 2 * nu f.c.toNat + 3 else 2 * nu f.a.toNat + 2
theorem det_step (f : F3) : detM (stepM f) = 1 := by
  unfold stepM
  split <;> simp [detM]
theorem act_flip (f : F3) : actF f ⟨0, -1, 1, 0⟩ = ⟨f.c, -f.b, f.a⟩ := by
  ext <;> simp [actF, wvF]
theorem act_shift (f : F3) (t : Int) : actF f ⟨1, t, 0, 1⟩ = ⟨f.a, f.b + 2 * f.a * t, f.a * t * t + f.b * t + f.c⟩ := by
  ext <;> simp [actF, wvF] <;> grind
theorem mu_red {f : F3} (h : red f) : mu f = 0 := if_pos h
theorem mu_sp {f : F3} (h : ¬ red f) (h1 : f.a = f.c ∧ -f.a < f.b ∧ f.b < 0) : mu f = 1 := by
  unfold mu
  rw [if_neg h, if_pos h1]
theorem mu_fl {f : F3} (h : ¬ red f) (h1 : ¬ (f.a = f.c ∧ -f.a < f.b ∧ f.b < 0)) (h2 : flips f) : mu f = 2 * nu f.c.toNat + 3 := by
  unfold mu
  rw [if_neg h, if_neg h1, if_pos h2]
theorem mu_sh {f : F3} (h : ¬ red f) (h2 : ¬ flips f) : mu f = 2 * nu f.a.toNat + 2 := by
  unfold mu
  rw [if_neg h, if_neg (fun z => h2 (.inr ⟨z.1, z.2.2⟩)), if_neg h2]
theorem mu_step {f : F3} (h0 : 0 < f.a) (hD : dscF f < 0) (hD2 : -1300 ≤ dscF f) (hr : ¬ red f) : mu (actF f (stepM f)) < mu f := by
  have hc := pos_c h0 hD
  have hd := dsc_act1 (f := f) (det_step f)
  by_cases hf : flips f
  · have e : actF f (stepM f) = ⟨f.c, -f.b, f.a⟩ := by
      unfold stepM
      rw [if_pos hf, act_flip]
    rw [e]
    by_cases hs : f.a = f.c ∧ -f.a < f.b ∧ f.b < 0
    · rw [mu_sp hr hs, mu_red (by unfold red; dsimp only; omega)]
      omega
    · rw [mu_fl hr hs hf]
      by_cases hg : red ⟨f.c, -f.b, f.a⟩
      · rw [mu_red hg]
        omega
      · unfold flips at hf
        rw [mu_sh hg (by unfold flips; dsimp only; omega)]
        dsimp only
        omega
  · have e : actF f (stepM f) = ⟨f.a, f.b + 2 * f.a * (f.a - f.b).fdiv (2 * f.a), f.a * (f.a - f.b).fdiv (2 * f.a) * (f.a - f.b).fdiv (2 * f.a) + f.b * (f.a - f.b).fdiv (2 * f.a) + f.c⟩ := by
      unfold stepM
      rw [if_neg hf, act_shift]
    rw [e] at hd ⊢
    rw [mu_sh hr hf]
    have hs := shift_up (b := f.b) h0
    generalize hb' : f.b + 2 * f.a * (f.a - f.b).fdiv (2 * f.a) = b' at *
    generalize hc' : f.a * (f.a - f.b).fdiv (2 * f.a) * (f.a - f.b).fdiv (2 * f.a) + f.b * (f.a - f.b).fdiv (2 * f.a) + f.c = c' at *
    obtain ⟨n1, n2, n3⟩ := norm_c (f := ⟨f.a, b', c'⟩) h0 (by dsimp only; omega) hs.2 (by rw [hd]; exact hD) (by rw [hd]; exact hD2)
    dsimp only at n1 n2 n3
    by_cases hg : red ⟨f.a, b', c'⟩
    · rw [mu_red hg]
      omega
    · by_cases hsp : f.a = c' ∧ -f.a < b' ∧ b' < 0
      · rw [mu_sp hg hsp]
        omega
      · have hlt : c' < f.a := by
          unfold red at hg
          dsimp only at hg
          omega
        rw [mu_fl hg hsp (.inl hlt)]
        have := nu_lt (a := f.a.toNat) (c := c'.toNat) (by omega) (by omega) (fun _ => by omega)
        dsimp only
        omega
theorem mu_le {f : F3} (h0 : 0 < f.a) (h1 : f.a < 2 ^ 40) (h2 : f.c < 2 ^ 40) : mu f ≤ 211 := by
  have k1 := nu_le (a := f.a.toNat) (by omega)
  have k2 := nu_le (a := f.c.toNat) (by omega)
  by_cases hr : red f
  · rw [mu_red hr]
    omega
  · by_cases hs : f.a = f.c ∧ -f.a < f.b ∧ f.b < 0
    · rw [mu_sp hr hs]
      omega
    · by_cases hf : flips f
      · rw [mu_fl hr hs hf]
        omega
      · rw [mu_sh hr hf]
        omega
/-- sizes are kept -/
theorem size_step {f : F3} (h0 : 0 < f.a) (hD : dscF f < 0) (hD2 : -1300 ≤ dscF f) (ha : f.a.natAbs < 2 ^ 40) (hb : f.b.natAbs < 2 ^ 40) (hc : f.c.natAbs < 2 ^ 40) :
    0 < (actF f (stepM f)).a ∧ (actF f (stepM f)).a.natAbs < 2 ^ 40 ∧ (actF f (stepM f)).b.natAbs < 2 ^ 40 ∧ (actF f (stepM f)).c.natAbs < 2 ^ 40 := by
  have hcp := pos_c h0 hD
  have hd := dsc_act1 (f := f) (det_step f)
  by_cases hf : flips f
  · have e : actF f (stepM f) = ⟨f.c, -f.b, f.a⟩ := by
      unfold stepM
      rw [if_pos hf, act_flip]
    rw [e]
    dsimp only
    omega
  · have e : actF f (stepM f) = ⟨f.a, f.b + 2 * f.a * (f.a - f.b).fdiv (2 * f.a), f.a * (f.a - f.b).fdiv (2 * f.a) * (f.a - f.b).fdiv (2 * f.a) + f.b * (f.a - f.b).fdiv (2 * f.a) + f.c⟩ := by
      unfold stepM
      rw [if_neg hf, act_shift]
    rw [e] at hd ⊢
    have hs := shift_up (b := f.b) h0
    generalize hb' : f.b + 2 * f.a * (f.a - f.b).fdiv (2 * f.a) = b' at *
    generalize hc' : f.a * (f.a - f.b).fdiv (2 * f.a) * (f.a - f.b).fdiv (2 * f.a) + f.b * (f.a - f.b).fdiv (2 * f.a) + f.c = c' at *
    obtain ⟨n1, n2, n3⟩ := norm_c (f := ⟨f.a, b', c'⟩) h0 (by dsimp only; omega) hs.2 (by rw [hd]; exact hD) (by rw [hd]; exact hD2)
    dsimp only at n1 n2 n3 ⊢
    omega
end Mth

-- Mth4
set_option maxHeartbeats 2000000
/-! Indefinite forms: the step, the reduction, the ring. s: the whole root of the discriminant D. -/
namespace Mth
structure Rt (s D : Int) : Prop where
  lo : s * s < D
  hi : D < (s + 1) * (s + 1)
  s0 : 0 < s
  s36 : s ≤ 36
def topI (s : Int) (f : F3) : Int := if f.c.natAbs > s then f.c.natAbs else s
def midI (s : Int) (f : F3) : Int := topI s f - (topI s f + f.b).fmod (2 * f.c.natAbs)
def nI (s : Int) (f : F3) : Int := (f.b + midI s f).fdiv (2 * f.c)
def stI (s : Int) (f : F3) : F3 := actF f ⟨0, -1, 1, nI s f⟩
def redI (s : Int) (f : F3) : Prop := 0 < f.b ∧ f.b ≤ s ∧ s - f.b < 2 * f.a.natAbs ∧ 2 * f.a.natAbs ≤ s + f.b
instance (s : Int) (f : F3) : Decidable (redI s f) := inferInstanceAs (Decidable (_ ∧ _))
theorem sq_nn (x : Int) : 0 ≤ x * x := by
  rcases Int.le_total 0 x with h | h
  · exact Int.mul_nonneg h h
  · exact Int.mul_nonneg_of_nonpos_of_nonpos h h
/-- a square is not the discriminant -/
theorem Rt.nosq {s D x : Int} (r : Rt s D) : x * x ≠ D := fun e => by
  have h0 := r.lo
  have h1 := r.hi
  have hs := r.s0
  have hX : ((x.natAbs : Nat) : Int) * x.natAbs = x * x := Int.natAbs_mul_self
  generalize ((x.natAbs : Nat) : Int) = X at hX
  rcases Int.lt_or_le X (s + 1) with h | h
  · rcases Int.lt_or_le X 0 with k | k
    · rcases Int.lt_or_le X (-s) with k2 | k2
      · have := Int.mul_nonneg (show 0 ≤ -X - s - 1 by omega) (show 0 ≤ -X + s + 1 by omega)
        grind
      · have := Int.mul_nonneg (show 0 ≤ s + X by omega) (show 0 ≤ s - X by omega)
        grind
    · have := Int.mul_nonneg (show 0 ≤ s - X by omega) (show 0 ≤ s + X by omega)
      grind
  · have := Int.mul_nonneg (show 0 ≤ X - s - 1 by omega) (show 0 ≤ X + s + 1 by omega)
    grind
theorem Rt.c0 {s : Int} {f : F3} (r : Rt s (dscF f)) : f.c ≠ 0 := fun e => r.nosq (x := f.b) (by simp [dscF, e])
theorem Rt.a0 {s : Int} {f : F3} (r : Rt s (dscF f)) : f.a ≠ 0 := fun e => r.nosq (x := f.b) (by simp [dscF, e])
theorem mid_spec {s : Int} {f : F3} (hc : f.c ≠ 0) : topI s f - 2 * f.c.natAbs < midI s f ∧ midI s f ≤ topI s f ∧ f.b + midI s f = 2 * f.c * nI s f := by
  have h1 := Int.fmod_nonneg_of_pos (topI s f + f.b) (show 0 < 2 * (f.c.natAbs : Int) by omega)
  have h2 := Int.fmod_lt_of_pos (topI s f + f.b) (show 0 < 2 * (f.c.natAbs : Int) by omega)
  have h3 := Int.mul_fdiv_add_fmod (topI s f + f.b) (2 * f.c.natAbs)
  refine ⟨by unfold midI; omega, by unfold midI; omega, ?_⟩
  have h4 : f.b + midI s f = 2 * f.c.natAbs * (topI s f + f.b).fdiv (2 * f.c.natAbs) := by
    unfold midI
    omega
  have h5 : (2 * f.c) ∣ (f.b + midI s f) := by
    rw [h4]
    rcases Int.natAbs_eq f.c with e | e
    · exact ⟨(topI s f + f.b).fdiv (2 * f.c.natAbs), by rw [← e]⟩
    · refine ⟨-((topI s f + f.b).fdiv (2 * f.c.natAbs)), ?_⟩
      generalize (topI s f + f.b).fdiv (2 * f.c.natAbs) = t
      have e2 : ((f.c.natAbs : Nat) : Int) = -f.c := by omega
      rw [e2]
      grind
  unfold nI
  obtain ⟨t, ht⟩ := h5
  rw [ht, Int.mul_fdiv_cancel_left _ (by omega)]
theorem st_spec {s : Int} {f : F3} (hc : f.c ≠ 0) : (stI s f).a = f.c ∧ (stI s f).b = midI s f ∧ 4 * f.c * (stI s f).c = midI s f * midI s f - dscF f := by
  obtain ⟨_, _, h⟩ := mid_spec (s := s) hc
  refine ⟨?_, ?_, ?_⟩
  · simp [stI, actF, wvF]
  · simp only [stI, actF, wvF]
    grind
  · simp only [stI, actF, wvF, dscF]
    grind
theorem st_det (s : Int) (f : F3) : detM ⟨0, -1, 1, nI s f⟩ = 1 := by simp [detM]
theorem st_dsc (s : Int) (f : F3) : dscF (stI s f) = dscF f := dsc_act1 (st_det s f)
theorem st_eq {s : Int} {f : F3} (hc : f.c ≠ 0) : stI s f = ⟨f.c, midI s f, (midI s f * midI s f - dscF f).fdiv (4 * f.c)⟩ := by
  obtain ⟨h1, h2, h3⟩ := st_spec (s := s) hc
  ext
  · exact h1
  · exact h2
  · dsimp only
    rw [← h3, Int.mul_fdiv_cancel_left _ (by omega)]
/-- sizes behind a step -/
theorem st_big {s : Int} {f : F3} (r : Rt s (dscF f)) (h : s < f.c.natAbs) : 4 * (stI s f).c.natAbs ≤ f.c.natAbs ∧ (midI s f).natAbs ≤ f.c.natAbs := by
  have hc := r.c0
  obtain ⟨m1, m2, _⟩ := mid_spec (s := s) hc
  obtain ⟨_, _, h3⟩ := st_spec (s := s) hc
  have ht : topI s f = f.c.natAbs := if_pos h
  rw [ht] at m1 m2
  have hm : (midI s f).natAbs ≤ f.c.natAbs := by omega
  refine ⟨?_, hm⟩
  have hC : ((f.c.natAbs : Nat) : Int) * f.c.natAbs = f.c * f.c := Int.natAbs_mul_self
  have hD : dscF f ≤ (f.c.natAbs : Int) * f.c.natAbs := by
    have := Int.mul_nonneg (show 0 ≤ (f.c.natAbs : Int) - (s + 1) by omega) (show 0 ≤ (f.c.natAbs : Int) + (s + 1) by have := r.s0; omega)
    have := r.hi
    grind
  have hD0 : 0 < dscF f := by
    have := r.lo
    have := sq_nn s
    omega
  have hM := sq_le (a := (f.c.natAbs : Int)) (b := midI s f) (by omega) (by omega)
  have hM0 := sq_nn (midI s f)
  have e : (4 * f.c * (stI s f).c).natAbs = 4 * f.c.natAbs * (stI s f).c.natAbs := by
    rw [Int.natAbs_mul, Int.natAbs_mul]
    rfl
  have e2 : 4 * f.c.natAbs * (stI s f).c.natAbs ≤ f.c.natAbs * f.c.natAbs := by
    rw [← e, h3]
    have : ((f.c.natAbs * f.c.natAbs : Nat) : Int) = (f.c.natAbs : Int) * f.c.natAbs := Int.natCast_mul _ _
    omega
  have e3 : f.c.natAbs * (4 * (stI s f).c.natAbs) ≤ f.c.natAbs * f.c.natAbs := by
    have : f.c.natAbs * (4 * (stI s f).c.natAbs) = 4 * f.c.natAbs * (stI s f).c.natAbs := by grind
    omega
  exact Nat.le_of_mul_le_mul_left e3 (by omega)
theorem st_small {s : Int} {f : F3} (r : Rt s (dscF f)) (h : f.c.natAbs ≤ s) : (midI s f).natAbs ≤ s ∧ (stI s f).c.natAbs ≤ 1400 ∧ (redI s (stI s f) ∨ (s < 2 * f.c.natAbs ∧ 2 * (stI s f).c.natAbs ≤ s)) := by
  have hc := r.c0
  obtain ⟨m1, m2, _⟩ := mid_spec (s := s) hc
  obtain ⟨h1, h2, h3⟩ := st_spec (s := s) hc
  have ht : topI s f = s := if_neg (by omega)
  rw [ht] at m1 m2
  have hm : (midI s f).natAbs ≤ s := by omega
  have hM := sq_le (a := s) (b := midI s f) (by omega) (by omega)
  have hM0 := sq_nn (midI s f)
  have lo := r.lo
  have hi := r.hi
  have s36 := r.s36
  have s0 := r.s0
  have e : (4 * f.c * (stI s f).c).natAbs = 4 * f.c.natAbs * (stI s f).c.natAbs := by
    rw [Int.natAbs_mul, Int.natAbs_mul]
    rfl
  have hD : dscF f ≤ 1400 := by
    have := sq_le (a := 37) (b := s + 1) (by omega) (by omega)
    omega
  have e4 : ((4 * f.c.natAbs * (stI s f).c.natAbs : Nat) : Int) = dscF f - midI s f * midI s f := by
    rw [← e, h3]
    omega
  refine ⟨hm, ?_, ?_⟩
  · have : (stI s f).c.natAbs ≤ 4 * f.c.natAbs * (stI s f).c.natAbs := Nat.le_mul_of_pos_left _ (by omega)
    omega
  · by_cases h5 : 2 * (f.c.natAbs : Int) ≤ s
    · left
      unfold redI
      rw [h1, h2]
      omega
    · right
      refine ⟨by omega, ?_⟩
      rcases Nat.lt_or_ge s.toNat (2 * (stI s f).c.natAbs) with k | k
      · have p1 : (s.toNat + 1) * (s.toNat + 1) ≤ (2 * f.c.natAbs) * (2 * (stI s f).c.natAbs) := Nat.mul_le_mul (by omega) (by omega)
        have p2 : (2 * f.c.natAbs) * (2 * (stI s f).c.natAbs) = 4 * f.c.natAbs * (stI s f).c.natAbs := by grind
        have p3 : (((s.toNat + 1) * (s.toNat + 1) : Nat) : Int) = (s + 1) * (s + 1) := by
          rw [Int.natCast_mul, Int.natCast_add, Int.toNat_of_nonneg (by omega)]
          rfl
        omega
      · omega
def muI (s : Int) (f : F3) : Nat := if redI s f then 0 else if s < f.c.natAbs then 3 + f.c.natAbs.log2 else if s < 2 * f.c.natAbs then 2 else 1
theorem muI_le {s : Int} {f : F3} (h : f.c.natAbs < 2 ^ 40) : muI s f ≤ 43 := by
  unfold muI
  have : f.c.natAbs.log2 < 40 := by
    by_cases h0 : f.c.natAbs = 0
    · rw [h0]
      decide
    · exact (Nat.log2_lt h0).mpr h
  by_cases h1 : redI s f
  · rw [if_pos h1]
    omega
  · rw [if_neg h1]
    by_cases h2 : s < f.c.natAbs
    · rw [if_pos h2]
      omega
    · rw [if_neg h2]
      by_cases h3 : s < 2 * f.c.natAbs
      · rw [if_pos h3]
        omega
      · rw [if_neg h3]
        omega
theorem muI_step {s : Int} {f : F3} (r : Rt s (dscF f)) (hr : ¬ redI s f) : muI s (stI s f) < muI s f := by
  have r2 : Rt s (dscF (stI s f)) := by
    rw [st_dsc]
    exact r
  have c2 := r2.c0
  by_cases h1 : s < f.c.natAbs
  · obtain ⟨k1, k2⟩ := st_big r h1
    have e : muI s f = 3 + f.c.natAbs.log2 := by
      unfold muI
      rw [if_neg hr, if_pos h1]
    rw [e]
    unfold muI
    by_cases g1 : redI s (stI s f)
    · rw [if_pos g1]
      omega
    · rw [if_neg g1]
      by_cases g2 : s < (stI s f).c.natAbs
      · rw [if_pos g2]
        have : (stI s f).c.natAbs.log2 + 1 ≤ f.c.natAbs.log2 := (Nat.le_log2 (by omega)).mpr (by
          have := Nat.log2_self_le (show (stI s f).c.natAbs ≠ 0 by omega)
          rw [Nat.pow_succ]
          omega)
        omega
      · rw [if_neg g2]
        split <;> omega
  · obtain ⟨k1, k2, k3⟩ := st_small r (by omega)
    rcases k3 with k3 | ⟨k3, k4⟩
    · have : muI s (stI s f) = 0 := if_pos k3
      rw [this]
      unfold muI
      rw [if_neg hr, if_neg h1]
      split <;> omega
    · have e : muI s f = 2 := by
        unfold muI
        rw [if_neg hr, if_neg h1, if_pos k3]
      rw [e]
      unfold muI
      by_cases g1 : redI s (stI s f)
      · rw [if_pos g1]
        omega
      · rw [if_neg g1, if_neg (by omega), if_neg (by omega)]
        omega
end Mth

-- Mth5
set_option maxHeartbeats 2000000
/-! The ring of a reduced indefinite form. -/
namespace Mth
def itI (s : Int) (f : F3) : Nat → F3
  | 0 => f
  | k + 1 => stI s (itI s f k)
theorem it_dsc (s : Int) (f : F3) : ∀ k, dscF (itI s f k) = dscF f
  | 0 => rfl
  | k + 1 => (st_dsc s _).trans (it_dsc s f k)
theorem it_rt {s : Int} {f : F3} (r : Rt s (dscF f)) (k : Nat) : Rt s (dscF (itI s f k)) := by
  rw [it_dsc]
  exact r
theorem it_add (s : Int) (f : F3) (j : Nat) : ∀ k, itI s f (j + k) = itI s (itI s f j) k
  | 0 => rfl
  | k + 1 => congrArg (stI s) (it_add s f j k)
/-- the first reduced form that the steps come to -/
def LowI (s : Int) (g f : F3) : Prop := ∃ k, f = itI s g k ∧ redI s f ∧ ∀ j, j < k → ¬ redI s (itI s g j)
theorem low_unique {s : Int} {g f f' : F3} (h : LowI s g f) (h' : LowI s g f') : f = f' := by
  obtain ⟨k, e, r, n⟩ := h
  obtain ⟨k', e', r', n'⟩ := h'
  rcases Nat.lt_trichotomy k k' with q | q | q
  · exact absurd (e ▸ r) (n' k q)
  · rw [e, e', q]
  · exact absurd (e' ▸ r') (n k' q)
/-- the facts of the outer numbers of a reduced form -/
theorem red_ac {s : Int} {f : F3} (r : Rt s (dscF f)) (h : redI s f) : s - f.b < 2 * f.c.natAbs ∧ 2 * f.c.natAbs ≤ s + f.b := by
  obtain ⟨h1, h2, h3, h4⟩ := h
  have lo := r.lo
  have hi := r.hi
  have hb : f.b * f.b ≤ s * s := sq_le (by omega) h2
  have e1 : dscF f - f.b * f.b = -(4 * (f.a * f.c)) := by
    simp only [dscF]
    grind
  have e2 : (f.a * f.c).natAbs = f.a.natAbs * f.c.natAbs := Int.natAbs_mul _ _
  have e3 : dscF f - f.b * f.b = 2 * (f.a.natAbs : Int) * (2 * f.c.natAbs) := by
    have e4 : ((f.a.natAbs * f.c.natAbs : Nat) : Int) = (f.a.natAbs : Int) * f.c.natAbs := Int.natCast_mul _ _
    have e5 : 2 * (f.a.natAbs : Int) * (2 * f.c.natAbs) = 4 * ((f.a.natAbs : Int) * f.c.natAbs) := by grind
    omega
  have hA : 0 ≤ 2 * (f.a.natAbs : Int) := by omega
  have hC : 0 ≤ 2 * (f.c.natAbs : Int) := by omega
  generalize 2 * (f.a.natAbs : Int) = A at *
  generalize 2 * (f.c.natAbs : Int) = C at *
  constructor
  · rcases Int.lt_or_le (s - f.b) C with k | k
    · exact k
    · have p := Int.mul_le_mul h4 k (by omega) (by omega)
      have : (s + f.b) * (s - f.b) = s * s - f.b * f.b := by grind
      omega
  · rcases Int.lt_or_le (s + f.b) C with k | k
    · have p := Int.mul_le_mul (show s - f.b + 1 ≤ A by omega) (show s + f.b + 1 ≤ C by omega) (by omega) (by omega)
      have : (s - f.b + 1) * (s + f.b + 1) = (s + 1) * (s + 1) - f.b * f.b := by grind
      omega
    · exact k
theorem red_c {s : Int} {f : F3} (r : Rt s (dscF f)) (h : redI s f) : f.c.natAbs ≤ s := by
  have := red_ac r h
  have := h.2.1
  omega
theorem red_st {s : Int} {f : F3} (r : Rt s (dscF f)) (h : redI s f) : redI s (stI s f) := by
  have hc := r.c0
  obtain ⟨m1, m2, m3⟩ := mid_spec (s := s) hc
  obtain ⟨h1, h2, _⟩ := st_spec (s := s) hc
  obtain ⟨k1, k2⟩ := red_ac r h
  obtain ⟨b1, b2, _, _⟩ := h
  have ht : topI s f = s := if_neg (by omega)
  rw [ht] at m1 m2
  have m4 : 2 * f.c.natAbs ≤ f.b + midI s f := by
    have e : (f.b + midI s f).natAbs = 2 * f.c.natAbs * (nI s f).natAbs := by
      rw [m3, Int.natAbs_mul, Int.natAbs_mul]
      rfl
    have e2 : 0 < f.b + midI s f := by omega
    have e3 : (nI s f).natAbs ≠ 0 := fun z => by
      rw [z] at e
      omega
    have e4 : 2 * f.c.natAbs * 1 ≤ 2 * f.c.natAbs * (nI s f).natAbs := Nat.mul_le_mul_left _ (by omega)
    omega
  unfold redI
  rw [h1, h2]
  omega
theorem red_it {s : Int} {f : F3} (r : Rt s (dscF f)) (h : redI s f) : ∀ k, redI s (itI s f k)
  | 0 => h
  | k + 1 => red_st (it_rt r k) (red_it r h k)
/-- the step goes back in one way -/
theorem st_inj {s : Int} {f g : F3} (r : Rt s (dscF f)) (r' : Rt s (dscF g)) (hd : dscF f = dscF g) (h : redI s f) (h' : redI s g) (e : stI s f = stI s g) : f = g := by
  have hc := r.c0
  have hc' := r'.c0
  obtain ⟨_, _, m3⟩ := mid_spec (s := s) hc
  obtain ⟨_, _, n3⟩ := mid_spec (s := s) hc'
  obtain ⟨h1, h2, _⟩ := st_spec (s := s) hc
  obtain ⟨g1, g2, _⟩ := st_spec (s := s) hc'
  have ec : f.c = g.c := by rw [← h1, ← g1, e]
  have em : midI s f = midI s g := by rw [← h2, ← g2, e]
  obtain ⟨k1, k2⟩ := red_ac r h
  obtain ⟨l1, l2⟩ := red_ac r' h'
  have b1 := h.2.1
  have b2 := h'.2.1
  have eb : f.b = g.b := by
    have e1 : f.b - g.b = 2 * f.c * (nI s f - nI s g) := by
      rw [em] at m3
      rw [← ec] at n3
      grind
    have e2 : (f.b - g.b).natAbs = 2 * f.c.natAbs * (nI s f - nI s g).natAbs := by
      rw [e1, Int.natAbs_mul, Int.natAbs_mul]
      rfl
    by_cases z : (nI s f - nI s g).natAbs = 0
    · rw [z] at e2
      omega
    · have e4 : 2 * f.c.natAbs * 1 ≤ 2 * f.c.natAbs * (nI s f - nI s g).natAbs := Nat.mul_le_mul_left _ (by omega)
      rw [← ec] at l1 l2
      omega
  have ea : f.a = g.a := by
    unfold dscF at hd
    rw [eb, ec] at hd
    have : g.c * (f.a - g.a) = 0 := by grind
    rcases Int.mul_eq_zero.mp this with q | q
    · exact absurd q hc'
    · omega
  exact F3.ext ea eb ec
/-- pigeons -/
theorem pigeon : ∀ (n : Nat) (f : Nat → Nat), (∀ i, i ≤ n → f i < n) → ∃ i j, i < j ∧ j ≤ n ∧ f i = f j
  | 0, f, h => absurd (h 0 (Nat.le_refl _)) (Nat.not_lt_zero _)
  | n + 1, f, h => by
    by_cases hit : ∃ i, i ≤ n ∧ f i = f (n + 1)
    · obtain ⟨i, h1, h2⟩ := hit
      exact ⟨i, n + 1, by omega, Nat.le_refl _, h2⟩
    · -- the place of the last one is closed up
      obtain ⟨i, j, h1, h2, h3⟩ := pigeon n (fun i => if f i < f (n + 1) then f i else f i - 1) fun i hi => by
        have a := h i (by omega)
        have b := h (n + 1) (Nat.le_refl _)
        have c : f i ≠ f (n + 1) := fun z => hit ⟨i, hi, z⟩
        split <;> omega
      have c1 : f i ≠ f (n + 1) := fun z => hit ⟨i, by omega, z⟩
      have c2 : f j ≠ f (n + 1) := fun z => hit ⟨j, h2, z⟩
      refine ⟨i, j, h1, by omega, ?_⟩
      split at h3 <;> split at h3 <;> omega
def code (f : F3) : Nat := f.b.toNat * 73 + (f.a + 36).toNat
theorem code_lt {s : Int} {f : F3} (r : Rt s (dscF f)) (h : redI s f) : code f < 2701 ∧ 0 ≤ f.a + 36 ∧ f.a + 36 < 73 ∧ 0 ≤ f.b := by
  have := r.s36
  obtain ⟨h1, h2, h3, h4⟩ := h
  unfold code
  omega
theorem code_inj {s : Int} {f g : F3} (r : Rt s (dscF f)) (r' : Rt s (dscF g)) (hd : dscF f = dscF g) (h : redI s f) (h' : redI s g) (e : code f = code g) : f = g := by
  have h1 := code_lt r h
  have h2 := code_lt r' h'
  unfold code at e
  have eb : f.b = g.b := by omega
  have ea : f.a = g.a := by omega
  have ha := r'.a0
  have ec : f.c = g.c := by
    unfold dscF at hd
    rw [ea, eb] at hd
    have : g.a * (f.c - g.c) = 0 := by grind
    rcases Int.mul_eq_zero.mp this with q | q
    · exact absurd q ha
    · omega
  exact F3.ext ea eb ec
theorem back {s : Int} {f : F3} (r : Rt s (dscF f)) (h : redI s f) : ∀ (i k : Nat), itI s f i = itI s f (i + k) → f = itI s f k
  | 0, k, e => by
    rw [Nat.zero_add] at e
    exact e
  | i + 1, k, e => by
    refine back r h i k ?_
    have e2 : itI s f (i + 1 + k) = stI s (itI s f (i + k)) := by
      have : i + 1 + k = i + k + 1 := by omega
      rw [this]
      rfl
    rw [e2] at e
    exact st_inj (it_rt r i) (it_rt r (i + k)) (by rw [it_dsc, it_dsc]) (red_it r h i) (red_it r h (i + k)) e
theorem comes_back {s : Int} {f : F3} (r : Rt s (dscF f)) (h : redI s f) : ∃ n, 0 < n ∧ n ≤ 2701 ∧ itI s f n = f := by
  obtain ⟨i, j, h1, h2, h3⟩ := pigeon 2701 (fun i => code (itI s f i)) fun i _ => (code_lt (it_rt r i) (red_it r h i)).1
  have e := code_inj (it_rt r i) (it_rt r j) (by rw [it_dsc, it_dsc]) (red_it r h i) (red_it r h j) h3
  have e2 : i + (j - i) = j := by omega
  rw [← e2] at e
  exact ⟨j - i, by omega, by omega, (back r h i (j - i) e).symm⟩
def IsPer (s : Int) (f : F3) (n : Nat) : Prop := 0 < n ∧ itI s f n = f ∧ ∀ j, 0 < j → j < n → itI s f j ≠ f
theorem per_unique {s : Int} {f : F3} {n m : Nat} (h : IsPer s f n) (h' : IsPer s f m) : n = m := by
  rcases Nat.lt_trichotomy n m with q | q | q
  · exact absurd h.2.1 (h'.2.2 n h.1 q)
  · exact q
  · exact absurd h'.2.1 (h.2.2 m h'.1 q)
theorem least_of (P : Nat → Prop) : ∀ n, P n → ∃ m, m ≤ n ∧ P m ∧ ∀ j, j < m → ¬ P j := by
  intro n
  induction n using Nat.strongRecOn with
  | ind n ih =>
    intro h
    by_cases hx : ∃ j, j < n ∧ P j
    · obtain ⟨j, h1, h2⟩ := hx
      obtain ⟨m, k1, k2, k3⟩ := ih j h1 h2
      exact ⟨m, by omega, k2, k3⟩
    · exact ⟨n, Nat.le_refl _, h, fun j hj hp => hx ⟨j, hj, hp⟩⟩
theorem per_ex {s : Int} {f : F3} (r : Rt s (dscF f)) (h : redI s f) : ∃ n, IsPer s f n ∧ n ≤ 2701 := by
  obtain ⟨n, h1, h2, h3⟩ := comes_back r h
  obtain ⟨m, k1, k2, k3⟩ := least_of (fun n => 0 < n ∧ itI s f n = f) n ⟨h1, h3⟩
  exact ⟨m, ⟨k2.1, k2.2, fun j a b e => k3 j b ⟨a, e⟩⟩, by omega⟩
/-! ### the least form of a ring -/
def ltF (f g : F3) : Bool := decide (f.a < g.a ∨ (f.a = g.a ∧ (f.b < g.b ∨ (f.b = g.b ∧ f.c < g.c))))
def leastF (x : F3) (xs : List F3) : F3 := xs.foldl (fun a y => if ltF y a then y else a) x
def ringI (s : Int) (f : F3) (n : Nat) : List F3 := (List.range n).map (itI s f)
theorem ring_succ (s : Int) (f : F3) (n : Nat) : ringI s f (n + 1) = ringI s f n ++ [itI s f n] := by
  unfold ringI
  rw [List.range_succ, List.map_append]
  rfl
theorem ring_cons (s : Int) (f : F3) {n : Nat} (h : 0 < n) : ∃ xs, ringI s f n = f :: xs := by
  cases n with
  | zero => cases h
  | succ n =>
    unfold ringI
    rw [List.range_succ_eq_map]
    exact ⟨_, rfl⟩
/-- the canonical form of an indefinite form -/
def CanI (s : Int) (g C : F3) : Prop := ∃ f n xs, LowI s g f ∧ IsPer s f n ∧ ringI s f n = f :: xs ∧ C = leastF f xs
theorem can_unique {s : Int} {g C C' : F3} (h : CanI s g C) (h' : CanI s g C') : C = C' := by
  obtain ⟨f, n, xs, h1, h2, h3, h4⟩ := h
  obtain ⟨f', n', xs', k1, k2, k3, k4⟩ := h'
  have e := low_unique h1 k1
  subst e
  have e2 := per_unique h2 k2
  subst e2
  rw [h3] at k3
  rw [h4, k4, (List.cons.inj k3).2]
end Mth

-- Mth6
set_option maxHeartbeats 2000000
namespace Mth
theorem sq_lt_iff {s D x : Int} (r : Rt s D) (hx : 0 ≤ x) : x * x < D ↔ x ≤ s := by
  have lo := r.lo
  have hi := r.hi
  have s0 := r.s0
  constructor
  · intro h
    rcases Int.lt_or_le s x with q | q
    · have := Int.mul_le_mul (show s + 1 ≤ x by omega) (show s + 1 ≤ x by omega) (by omega) hx
      omega
    · exact q
  · intro h
    have := sq_le (a := s) (b := x) (by omega) h
    omega
theorem lawred_iff {s : Int} {g : F3} (r : Rt s (dscF g)) : (¬ (g.b ≤ 0 ∨ dscF g ≤ g.b * g.b) ∧ dscF g < (2 * (g.a.natAbs : Int) + g.b) * (2 * (g.a.natAbs : Int) + g.b) ∧
    (2 * (g.a.natAbs : Int) - g.b < 0 ∨ (2 * (g.a.natAbs : Int) - g.b) * (2 * (g.a.natAbs : Int) - g.b) < dscF g)) ↔ redI s g := by
  have s0 := r.s0
  unfold redI
  by_cases hb : g.b ≤ 0
  · constructor
    · rintro ⟨h, _⟩
      exact absurd (.inl hb) h
    · rintro ⟨h, _⟩
      omega
  · have h1 := sq_lt_iff r (show 0 ≤ g.b by omega)
    have h2 := sq_lt_iff r (show 0 ≤ 2 * (g.a.natAbs : Int) + g.b by omega)
    have ns := r.nosq (x := 2 * (g.a.natAbs : Int) + g.b)
    by_cases hh : 2 * (g.a.natAbs : Int) - g.b < 0
    · omega
    · have h3 := sq_lt_iff r (show 0 ≤ 2 * (g.a.natAbs : Int) - g.b by omega)
      omega
end Mth

-- Mth7
set_option maxHeartbeats 2000000
/-! Common measures; split and flat forms. -/
namespace Mth
theorem abs_le_of {X Y b : Int} (h : X - Y = b ∨ X - Y = -b) (hs : X * Y ≤ 0) : X.natAbs ≤ b.natAbs := by
  rcases Int.lt_trichotomy X 0 with h1 | h1 | h1
  · have : 0 ≤ Y := by
      rcases Int.lt_or_le Y 0 with k | k
      · have := Int.mul_pos_of_neg_of_neg h1 k
        omega
      · exact k
    omega
  · omega
  · have : Y ≤ 0 := by
      rcases Int.lt_or_le 0 Y with k | k
      · have := Int.mul_pos h1 k
        omega
      · exact k
    omega
theorem fdiv_nn {a b : Int} (h : 0 ≤ a * b) (hb : b ≠ 0) : 0 ≤ a.fdiv b := by
  have pos : ∀ {a b : Int}, 0 ≤ a * b → 0 < b → 0 ≤ a.fdiv b := fun {a b} h hb => by
    rw [Int.fdiv_eq_ediv_of_nonneg a (by omega)]
    refine Int.ediv_nonneg ?_ (by omega)
    rcases Int.lt_or_le a 0 with k | k
    · have := Int.mul_neg_of_neg_of_pos k hb
      omega
    · exact k
  rcases Int.lt_or_le 0 b with k | k
  · exact pos h k
  · have := pos (a := -a) (b := -b) (by rw [Int.neg_mul_neg]; exact h) (by omega)
    rw [Int.neg_fdiv_neg] at this
    exact this
/-- the sign of the rest -/
theorem fmod_sign (a : Int) {b : Int} (hb : b ≠ 0) : 0 ≤ b * a.fmod b := by
  rcases Int.lt_or_le 0 b with k | k
  · exact Int.mul_nonneg (by omega) (Int.fmod_nonneg_of_pos a k)
  · have h := Int.fmod_nonneg_of_pos (-a) (show 0 < -b by omega)
    rw [Int.neg_fmod_neg] at h
    have := Int.mul_nonneg (show 0 ≤ -b by omega) h
    rw [Int.neg_mul_neg] at this
    exact this
/-- one turn of the search for a common measure: the first numbers -/
structure Bz (low high lu hu b : Int) : Prop where
  s1 : lu * hu ≤ 0
  s2 : 0 ≤ low * high ∨ hu = 0
  s3 : low * hu - high * lu = b ∨ low * hu - high * lu = -b
theorem bz_step {low high lu hu b : Int} (hne : high ≠ 0) (z : Bz low high lu hu b) : Bz high (low.fmod high) hu (lu - low.fdiv high * hu) b ∧ (lu - low.fdiv high * hu).natAbs ≤ b.natAbs := by
  obtain ⟨s1, s2, s3⟩ := z
  have hr := fmod_sign low hne
  have e := (fdiv_spec low high hne).1
  have q1 : hu * (lu - low.fdiv high * hu) ≤ 0 := by
    rcases s2 with h | h
    · have p0 := fdiv_nn h hne
      have := Int.mul_nonneg p0 (sq_nn hu)
      grind
    · rw [h]
      omega
  have q3 : high * (lu - low.fdiv high * hu) - low.fmod high * hu = b ∨ high * (lu - low.fdiv high * hu) - low.fmod high * hu = -b := by
    rw [← e]
    rcases s3 with h | h
    · right
      grind
    · left
      grind
  refine ⟨⟨q1, .inl hr, q3⟩, ?_⟩
  have k := abs_le_of q3 (by
    have : (high * (lu - low.fdiv high * hu)) * (low.fmod high * hu) = (high * low.fmod high) * (hu * (lu - low.fdiv high * hu)) := by grind
    rw [this]
    exact Int.mul_nonpos_of_nonneg_of_nonpos hr q1)
  rw [Int.natAbs_mul] at k
  have : 1 * (lu - low.fdiv high * hu).natAbs ≤ high.natAbs * (lu - low.fdiv high * hu).natAbs := Nat.mul_le_mul_right _ (by omega)
  omega
/-- a number divided by a measure -/
theorem fdiv_of_dvd {x g : Int} (hg : g ≠ 0) (h : g ∣ x) : x = g * x.fdiv g := by
  obtain ⟨t, rfl⟩ := h
  rw [Int.mul_fdiv_cancel_left _ hg]
theorem gcd_div {x y g : Int} (hg : ((Int.gcd x y : Nat) : Int) = g) (h0 : g ≠ 0) : x = g * x.fdiv g ∧ y = g * y.fdiv g ∧ Int.gcd (x.fdiv g) (y.fdiv g) = 1 := by
  have h1 : g ∣ x := by rw [← hg]; exact Int.gcd_dvd_left x y
  have h2 : g ∣ y := by rw [← hg]; exact Int.gcd_dvd_right x y
  have e1 := fdiv_of_dvd h0 h1
  have e2 := fdiv_of_dvd h0 h2
  refine ⟨e1, e2, ?_⟩
  have e3 : Int.gcd x y = g.natAbs * Int.gcd (x.fdiv g) (y.fdiv g) := by
    conv => lhs; rw [e1, e2]
    exact Int.gcd_mul_left _ _ _
  have e4 : g.natAbs = Int.gcd x y := by omega
  rw [e4] at e3
  have h5 : 0 < Int.gcd x y := by omega
  have : Int.gcd x y * Int.gcd (x.fdiv g) (y.fdiv g) = Int.gcd x y * 1 := by omega
  exact Nat.eq_of_mul_eq_mul_left h5 this
/-! ### split forms -/
/-- a direction at which a split form is 0, with the sign e of the middle there -/
structure Dir (g : F3) (x y e : Int) : Prop where
  gcd : Int.gcd x y = 1
  zero : wvF g x y = 0
  mid : ∀ q s, x * s - y * q = 1 → 2 * g.a * x * q + g.b * (x * s + y * q) + 2 * g.c * y * s = e
theorem dir_of {g : F3} {x y k t X Y e : Int} (hg : Int.gcd x y = 1) (ht : t ≠ 0) (hX : X = t * x) (hY : Y = t * y) (h0 : g.a * X * X + g.b * X * Y + g.c * Y * Y = 0)
    (h1 : ∀ q s, 2 * g.a * X * q + g.b * (X * s + Y * q) + 2 * g.c * Y * s = e * (X * s - Y * q)) : Dir g x y e := by
  subst hX hY
  refine ⟨hg, ?_, fun q s h => ?_⟩
  · have : t * (t * wvF g x y) = 0 := by
      simp only [wvF]
      grind
    rcases Int.mul_eq_zero.mp this with h | h
    · exact absurd h ht
    · rcases Int.mul_eq_zero.mp h with h | h
      · exact absurd h ht
      · exact h
  · have h2 := h1 q s
    have : t * (2 * g.a * x * q + g.b * (x * s + y * q) + 2 * g.c * y * s - e) = 0 := by grind
    rcases Int.mul_eq_zero.mp this with h | h
    · exact absurd h ht
    · omega
theorem split_dir {g : F3} {k : Int} (hk : k * k = dscF g) : (∀ x y t, Int.gcd x y = 1 → t ≠ 0 → k - g.b = t * x → 2 * g.a = t * y → Dir g x y (-k)) ∧ (∀ x y t, Int.gcd x y = 1 → t ≠ 0 → -k - g.b = t * x → 2 * g.a = t * y → Dir g x y k) := by
  simp only [dscF] at hk
  constructor
  · intro x y t h1 h2 h3 h4
    exact dir_of (k := k) h1 h2 h3 h4 (by grind) (fun q s => by grind)
  · intro x y t h1 h2 h3 h4
    exact dir_of (k := k) h1 h2 h3 h4 (by grind) (fun q s => by grind)
theorem split_dir0 {g : F3} (ha : g.a = 0) : Dir g 1 0 g.b ∧ (∀ x y t, Int.gcd x y = 1 → t ≠ 0 → -g.c = t * x → g.b = t * y → Dir g x y (-g.b)) := by
  constructor
  · refine ⟨by decide, ?_, fun q s h => ?_⟩
    · simp [wvF, ha]
    · rw [ha]
      grind
  · intro x y t h1 h2 h3 h4
    exact dir_of (k := 0) h1 h2 h3 h4 (by rw [ha]; grind) (fun q s => by rw [ha]; grind)
theorem dir_act {g : F3} {x y e q s : Int} (d : Dir g x y e) (h : x * s - y * q = 1) : (actF g ⟨x, q, y, s⟩).a = 0 ∧ (actF g ⟨x, q, y, s⟩).b = e := by
  refine ⟨?_, ?_⟩
  · exact d.zero
  · simp only [actF]
    have := d.mid q s h
    grind
/-- the canonical form of a split form -/
def CanS (k : Int) (g C : F3) : Prop := C.a = 0 ∧ C.b = k ∧ 0 ≤ C.c ∧ C.c < k ∧ ∃ m, detM m = 1 ∧ actF g m = C
theorem split_shift {g : F3} {k : Int} {m : M4} (hk : 0 < k) (h0 : (actF g m).a = 0) (h1 : (actF g m).b = k) (hm : detM m = 1) :
    actF g (mulM m ⟨1, -((actF g m).c.fdiv k), 0, 1⟩) = ⟨0, k, (actF g m).c.fmod k⟩ ∧ detM (mulM m ⟨1, -((actF g m).c.fdiv k), 0, 1⟩) = 1 ∧ CanS k g ⟨0, k, (actF g m).c.fmod k⟩ := by
  have e := (fdiv_spec (actF g m).c k (by omega)).1
  have h2 : actF g (mulM m ⟨1, -((actF g m).c.fdiv k), 0, 1⟩) = ⟨0, k, (actF g m).c.fmod k⟩ := by
    rw [← act_mul, act_shift, h0, h1, ← e]
    ext <;> dsimp only <;> grind
  have h3 : detM (mulM m ⟨1, -((actF g m).c.fdiv k), 0, 1⟩) = 1 := by
    rw [det_mul, hm]
    simp [detM]
  exact ⟨h2, h3, rfl, rfl, Int.fmod_nonneg_of_pos _ hk, Int.fmod_lt_of_pos _ hk, _, h3, h2⟩
theorem split_unique {k : Int} {g C C' : F3} (hk : 0 < k) (h : CanS k g C) (h' : CanS k g C') : C = C' := by
  obtain ⟨a1, a2, a3, a4, m, a5, a6⟩ := h
  obtain ⟨b1, b2, b3, b4, n, b5, b6⟩ := h'
  -- the matrix from C to C'
  have hM : actF C (mulM (invM m) n) = C' := by
    rw [← act_mul, ← a6, act_inv a5, b6]
  have hd : detM (mulM (invM m) n) = 1 := by
    rw [det_mul, det_inv, a5, b5]
    rfl
  generalize mulM (invM m) n = M at *
  have e1 : C'.a = C.a * M.p * M.p + C.b * M.p * M.r + C.c * M.r * M.r := by rw [← hM]; rfl
  have e2 : C'.b = 2 * C.a * M.p * M.q + C.b * (M.p * M.s + M.q * M.r) + 2 * C.c * M.r * M.s := by rw [← hM]; rfl
  have e3 : C'.c = C.a * M.q * M.q + C.b * M.q * M.s + C.c * M.s * M.s := by rw [← hM]; rfl
  rw [a1, a2, b1] at e1
  rw [a1, a2, b2] at e2
  rw [a1, a2] at e3
  simp only [detM] at hd
  have e4 : M.r * (k * M.p + C.c * M.r) = 0 := by grind
  rcases Int.mul_eq_zero.mp e4 with hr | hr
  · have hps : M.p * M.s = 1 := by rw [hr] at hd; omega
    have e5 : ∃ t, C'.c = C.c + k * t := by
      rcases unit_cases hps with ⟨h1, h2⟩ | ⟨h1, h2⟩
      · exact ⟨M.q, by rw [h2] at e3; grind⟩
      · exact ⟨-M.q, by rw [h2] at e3; grind⟩
    obtain ⟨t, ht⟩ := e5
    have t0 : t = 0 := by
      rcases Int.lt_trichotomy t 0 with q | q | q
      · have := Int.mul_le_mul_of_nonneg_left (show t ≤ -1 by omega) (show 0 ≤ k by omega)
        omega
      · exact q
      · have := Int.mul_le_mul_of_nonneg_left (show 1 ≤ t by omega) (show 0 ≤ k by omega)
        omega
    rw [t0] at ht
    exact F3.ext (by omega) (by omega) (by omega)
  · exfalso
    have e6 : k = M.r * (k * M.q + C.c * M.s) := by grind
    have e7 : k = -(M.r * (k * M.q + C.c * M.s)) := by grind
    omega
end Mth

-- Mth8
set_option maxHeartbeats 2000000
/-! Flat forms. -/
namespace Mth
theorem sq_gcd {m n h : Nat} (hg : Nat.gcd m n = 1) (e : h * h = m * n) : Nat.gcd m h * Nat.gcd m h = m := by
  have h1 : Nat.gcd m h ^ 2 = Nat.gcd (m ^ 2) (h ^ 2) := Nat.pow_gcd_pow.symm
  have h2 : h ^ 2 = m * n := by rw [Nat.pow_two]; exact e
  have h3 : m ^ 2 = m * m := Nat.pow_two m
  rw [h2, h3, Nat.gcd_mul_left, hg, Nat.mul_one, Nat.pow_two] at h1
  exact h1
theorem gcd3_cop {a b c h : Int} (hb : b = 2 * h) (hh : h * h = a * c) (hg : Nat.gcd (Nat.gcd a.natAbs b.natAbs) c.natAbs = 1) : Nat.gcd a.natAbs c.natAbs = 1 := by
  have e : h.natAbs * h.natAbs = a.natAbs * c.natAbs := by
    rw [← Int.natAbs_mul, ← Int.natAbs_mul, hh]
  have d1 : Nat.gcd a.natAbs c.natAbs ∣ a.natAbs := Nat.gcd_dvd_left _ _
  have d2 : Nat.gcd a.natAbs c.natAbs ∣ c.natAbs := Nat.gcd_dvd_right _ _
  generalize hd : Nat.gcd a.natAbs c.natAbs = d at *
  have d3 : d ^ 2 ∣ h.natAbs ^ 2 := by
    rw [Nat.pow_two, Nat.pow_two, e]
    exact Nat.mul_dvd_mul d1 d2
  have d4 : d ∣ h.natAbs := (Nat.pow_dvd_pow_iff (by decide)).mp d3
  have d5 : d ∣ b.natAbs := by
    rw [hb, Int.natAbs_mul]
    exact Nat.dvd_mul_left_of_dvd d4 _
  have d6 : d ∣ 1 := by
    rw [← hg]
    exact Nat.dvd_gcd (Nat.dvd_gcd d1 d5) d2
  exact Nat.dvd_one.mp d6
/-- a flat form without a common measure: the root form -/
theorem flat_root {a b c : Int} (hD : b * b = 4 * a * c) (hg : Nat.gcd (Nat.gcd a.natAbs b.natAbs) c.natAbs = 1) :
    ∃ p q σ : Int, 0 ≤ p ∧ (σ = 1 ∨ σ = -1) ∧ (σ = -1 ↔ (a < 0 ∨ c < 0)) ∧ p * p = a.natAbs ∧ q * q = c.natAbs ∧ a = σ * (p * p) ∧ c = σ * (q * q) ∧ b = σ * (2 * p * q) ∧ (b * σ < 0 ↔ (q < 0 ∧ b ≠ 0)) ∧ (b = 0 → 0 ≤ q) ∧ Int.gcd p q = 1 := by
  have h2 : b % 2 = 0 := by
    rcases Int.emod_two_eq b with h | h
    · exact h
    · exfalso
      have e : b = 2 * (b / 2) + 1 := by omega
      generalize b / 2 = t at e
      subst e
      have : 4 * (t * t + t - a * c) = -1 := by grind
      omega
  obtain ⟨h, hb⟩ : ∃ h, b = 2 * h := ⟨b / 2, by omega⟩
  have hh : h * h = a * c := by
    subst hb
    have : 4 * (h * h - a * c) = 0 := by grind
    omega
  have cop := gcd3_cop hb hh hg
  have e : h.natAbs * h.natAbs = a.natAbs * c.natAbs := by
    rw [← Int.natAbs_mul, ← Int.natAbs_mul, hh]
  have hp := sq_gcd cop e
  have hq := sq_gcd (m := c.natAbs) (n := a.natAbs) (h := h.natAbs) (by rw [Nat.gcd_comm]; exact cop) (by rw [e, Nat.mul_comm])
  generalize hP : Nat.gcd a.natAbs h.natAbs = P at hp
  generalize hQ : Nat.gcd c.natAbs h.natAbs = Q at hq
  have hPQ : P * Q = h.natAbs := by
    have : (P * Q) ^ 2 = h.natAbs ^ 2 := by
      rw [Nat.pow_two, Nat.pow_two, e, ← hp, ← hq]
      grind
    exact (Nat.pow_left_inj (by decide)).mp this
  have cpq : Nat.gcd P Q = 1 := by
    have d1 : Nat.gcd P Q ∣ a.natAbs := by
      rw [← hp]
      exact Nat.dvd_mul_right_of_dvd (Nat.gcd_dvd_left _ _) _
    have d2 : Nat.gcd P Q ∣ c.natAbs := by
      rw [← hq]
      exact Nat.dvd_mul_right_of_dvd (Nat.gcd_dvd_right _ _) _
    have := Nat.dvd_gcd d1 d2
    rw [cop] at this
    exact Nat.dvd_one.mp this
  have nn : 0 ≤ a * c := by rw [← hh]; exact sq_nn h
  have pi : ((P : Nat) : Int) * P = a.natAbs := by rw [← Int.natCast_mul, hp]
  have qi : ((Q : Nat) : Int) * Q = c.natAbs := by rw [← Int.natCast_mul, hq]
  have hi : ((P : Nat) : Int) * Q = h.natAbs := by rw [← Int.natCast_mul, hPQ]
  -- the signs of a and c agree
  have sg : (a < 0 ∨ c < 0) → a ≤ 0 ∧ c ≤ 0 := by
    rintro (k | k)
    · refine ⟨by omega, ?_⟩
      rcases Int.lt_or_le 0 c with k2 | k2
      · have := Int.mul_neg_of_neg_of_pos k k2
        omega
      · exact k2
    · refine ⟨?_, by omega⟩
      rcases Int.lt_or_le 0 a with k2 | k2
      · have := Int.mul_neg_of_pos_of_neg k2 k
        omega
      · exact k2
  have build : ∀ (σ : Int), (σ = 1 ∨ σ = -1) → (σ = -1 ↔ (a < 0 ∨ c < 0)) → a = σ * a.natAbs → c = σ * c.natAbs →
      ∃ p q σ : Int, 0 ≤ p ∧ (σ = 1 ∨ σ = -1) ∧ (σ = -1 ↔ (a < 0 ∨ c < 0)) ∧ p * p = a.natAbs ∧ q * q = c.natAbs ∧ a = σ * (p * p) ∧ c = σ * (q * q) ∧ b = σ * (2 * p * q) ∧ (b * σ < 0 ↔ (q < 0 ∧ b ≠ 0)) ∧ (b = 0 → 0 ≤ q) ∧ Int.gcd p q = 1 := by
    intro σ s1 s2 s3 s4
    by_cases hn : b * σ < 0
    · refine ⟨P, -Q, σ, by omega, s1, s2, pi, by rw [Int.neg_mul_neg]; exact qi, by rw [pi]; exact s3, by rw [Int.neg_mul_neg, qi]; exact s4, ?_, ⟨fun _ => ⟨?_, ?_⟩, fun _ => hn⟩, fun z => ?_, ?_⟩
      · rcases s1 with z | z <;> rw [z] at hn ⊢ <;> grind
      · have : Q ≠ 0 := fun z => by
          rw [z] at hPQ
          have : h = 0 := by omega
          rw [hb, this] at hn
          omega
        omega
      · intro z
        rw [z] at hn
        omega
      · rw [z] at hn
        omega
      · rw [Int.gcd_neg]
        exact cpq
    · refine ⟨P, Q, σ, by omega, s1, s2, pi, qi, by rw [pi]; exact s3, by rw [qi]; exact s4, ?_, ⟨fun k => absurd k hn, fun k => by omega⟩, fun _ => by omega, cpq⟩
      rcases s1 with z | z <;> rw [z] at hn ⊢ <;> grind
  by_cases hs : a < 0 ∨ c < 0
  · obtain ⟨k1, k2⟩ := sg hs
    exact build (-1) (.inr rfl) ⟨fun _ => hs, fun _ => rfl⟩ (by omega) (by omega)
  · exact build 1 (.inl rfl) ⟨fun z => by omega, fun z => absurd z hs⟩ (by omega) (by omega)
theorem flat_act {p q u v t : Int} (h : u * p + v * q = 1) : actF ⟨t * (p * p), t * (2 * p * q), t * (q * q)⟩ ⟨u, -q, v, p⟩ = ⟨t, 0, 0⟩ ∧ detM ⟨u, -q, v, p⟩ = 1 := by
  constructor
  · ext <;> simp only [actF, wvF] <;> grind
  · simp only [detM]
    grind
end Mth

-- Mth9
set_option maxHeartbeats 2000000
/-! How soon the search for a common measure ends. -/
namespace Mth
theorem log_half {P Q : Nat} (h : 2 * Q ≤ P) (h0 : Q ≠ 0) : Q.log2 + 1 ≤ P.log2 := (Nat.le_log2 (by omega)).mpr (by
  have := Nat.log2_self_le h0
  rw [Nat.pow_succ]
  omega)
/-- the product of two numbers in order falls to a half -/
theorem half_prod {a b r : Nat} (hr : r < b) (h : b + r ≤ a) : 2 * (b * r) ≤ a * b := by
  have : 2 * r ≤ a := by omega
  have := Nat.mul_le_mul_left b this
  grind
theorem log_prod {a b : Nat} (ha : a < 2 ^ 44) (hb : b < 2 ^ 44) : (a * b).log2 ≤ 88 := by
  by_cases h : a * b = 0
  · rw [h]
    decide
  · have : a * b < 2 ^ 88 := by
      have := Nat.mul_lt_mul'' ha hb
      omega
    have := (Nat.log2_lt h).mpr this
    omega
/-- the rest and the divisor, of one sign with the dividend -/
theorem rest_le {low high : Int} (hne : high ≠ 0) (hs : 0 ≤ low * high) (hlt : high.natAbs ≤ low.natAbs) : high.natAbs + (low.fmod high).natAbs ≤ low.natAbs := by
  have pos : ∀ {low high : Int}, 0 < high → 0 ≤ low * high → high.natAbs ≤ low.natAbs → high.natAbs + (low.fmod high).natAbs ≤ low.natAbs := fun {low high} h0 h1 h2 => by
    have l0 : 0 ≤ low := by
      rcases Int.lt_or_le low 0 with k | k
      · have := Int.mul_neg_of_neg_of_pos k h0
        omega
      · exact k
    have k1 := Int.fmod_nonneg_of_pos low h0
    have k2 := Int.mul_fdiv_add_fmod low high
    have k3 : 1 ≤ low.fdiv high := by
      rw [Int.fdiv_eq_ediv_of_nonneg low (by omega)]
      exact Int.le_ediv_of_mul_le h0 (by omega)
    have k4 := Int.mul_le_mul_of_nonneg_left k3 (show 0 ≤ high by omega)
    omega
  rcases Int.lt_or_le 0 high with h | h
  · exact pos h hs hlt
  · have := pos (low := -low) (high := -high) (by omega) (by rw [Int.neg_mul_neg]; exact hs) (by omega)
    rw [Int.neg_fmod_neg] at this
    omega
theorem act_sum (f : F3) (m : M4) : wvF f (m.p + m.q) (m.r + m.s) - wvF f m.p m.r - wvF f m.q m.s = (actF f m).b := by
  simp only [actF, wvF]
  grind
end Mth

-- K1
set_option maxHeartbeats 2000000
namespace Kx
open PySem PySem.Spec PyProof.Rows L2
local macro_rules | `(tactic| walk_at "bd") => `(tactic| first | assumption | exact Bd.lit (by decide) | ((with_reducible apply Bd.mul) <;> walk_at "bd") | ((with_reducible apply Bd.add) <;> walk_at "bd") | ((with_reducible apply Bd.sub) <;> walk_at "bd") | ((with_reducible apply Bd.neg); walk_at "bd"))
local macro_rules | `(tactic| walk_at "mul") => `(tactic| first | assumption | exact mulok_l (Bd.mono (by walk_at "bd") (by omega)) | exact mulok_r (Bd.mono (by walk_at "bd") (by omega)) | ((with_reducible apply mulok); (focus walk_at "bd"); (focus walk_at "bd"); omega))
local macro_rules | `(tactic| walk_at "cond") => `(tactic| first | assumption | walk_at "mul" | exact cfd (by first | assumption | omega) (by walk_at "bd") (by omega) | omega | decide)
local macro_rules | `(tactic| walk_at "rv") => `(tactic| first | with_reducible exact rv_I0 | with_reducible exact rv_B0 | with_reducible exact rv_eqI | with_reducible exact rv_neI | with_reducible exact rv_eqF | with_reducible exact rv_neF | with_reducible exact rv_eqS | ((with_reducible apply rv_I); walk_at "cond") | ((with_reducible apply rv_ixT); exact rfl) | ((with_reducible apply rv_ixL); exact rfl) | with_reducible exact rv_isN | with_reducible exact rv_notN | exact rv_cat (Nat.le_of_ble_eq_true rfl))
local macro_rules | `(tactic| walk_at "ev") => `(tactic| first
  | ((with_reducible apply ev_var); exact rfl) | with_reducible exact ev_int | with_reducible exact ev_bl | with_reducible exact ev_str | with_reducible exact ev_non | exact ev_quad (by assumption)
  | ((with_reducible apply ev_op); (focus walk_at "ev"); (focus walk_at "ev"); (focus walk_at "rv"))
  | ((with_reducible apply ev_un); (focus walk_at "ev"); with_reducible exact ru_I)
  | ((with_reducible apply ev_tup); (focus walk_at "ea"); exact Nat.le_of_ble_eq_true rfl)
  | ((with_reducible apply ev_lst); (focus walk_at "ea"); exact Nat.le_of_ble_eq_true rfl)
  | ((with_reducible apply ev_call); (focus walk_at "ea"); (focus walk_at "call"))
  | ((with_reducible apply ev_cb); (focus walk_at "ea"); (focus walk_at "rc"))
  | ((with_reducible apply ev_andV); (focus walk_at "ev"); (intro hh_; (focus walk_at "ev")))
  | ((with_reducible apply ev_orV); (focus walk_at "ev"); (intro hh_; (focus walk_at "ev")))
  | ((with_reducible apply ev_chain); (focus walk_at "ev"); (focus walk_at "ev"); (focus walk_at "rv"); (intro hh_; (focus walk_at "ev")); (intro hh_; (focus walk_at "rv")))
  | ((with_reducible apply ev_notV); walk_at "ev")
  | ((with_reducible apply ev_cut2); walk_at "ev"))
local macro_rules | `(tactic| walk_at "ea") => `(tactic| first | with_reducible exact ea_nil | ((with_reducible apply ea_cons); (focus walk_at "ev"); (focus walk_at "ea")))
local macro_rules | `(tactic| walk_at "rc") => `(tactic| first | with_reducible exact rc_abs | with_reducible exact rc_intI | with_reducible exact rc_intB | with_reducible exact rc_lenL | with_reducible exact rc_tupOf | exact rc_isq (by assumption) (by assumption) | exact rc_isq (by omega) (by omega))
local macro_rules | `(tactic| walk_at "et") => `(tactic| first
  | ((with_reducible apply et_test); walk_at "ev")
  | ((with_reducible apply et_B); walk_at "ev")
  | ((with_reducible apply et_and); (focus walk_at "et"); (intro hh_; (focus walk_at "et")))
  | ((with_reducible apply et_or); (focus walk_at "et"); (intro hh_; (focus walk_at "et")))
  | ((with_reducible apply et_not); walk_at "et"))
local macro_rules | `(tactic| walk_at "tg") => `(tactic| first | with_reducible exact tg_name | ((with_reducible apply tg_tup); (focus walk_at "tgs"); exact rfl) | ((with_reducible apply tg_unl); (focus walk_at "tgs"); exact rfl))
local macro_rules | `(tactic| walk_at "tgs") => `(tactic| first | with_reducible exact tg_nil | ((with_reducible apply tg_cons); (focus walk_at "tg"); (focus walk_at "tgs")))
local macro_rules | `(tactic| walk_at "pre") => `(tactic| first | assumption | walk_at "bd" | exact Bd.mono (by walk_at "bd") (by omega) | omega | decide)


section
variable {P : Program} {w : World} {K : Fg} {mg : Str → Option Value} {base : Heap}

def R_worth (ds : List PyData) (d : PyData) : Prop := ∃ (a : Int) (b : Int) (c : Int) (x : Int) (y : Int) (n1 : Nat) (n2 : Nat) (n3 : Nat) (m1 : Nat) (m2 : Nat), ds = [fm a b c, pt x y] ∧ Bd n1 a ∧ Bd n2 b ∧ Bd n3 c ∧ Bd m1 x ∧ Bd m2 y ∧ (n1 + m1 + m1 ≤ 900000 ∧ n2 + m1 + m2 ≤ 900000 ∧ n3 + m2 + m2 ≤ 900000) ∧ d = .int (wv a b c x y)
theorem i_worth {a : Int} {b : Int} {c : Int} {x : Int} {y : Int} {n1 : Nat} {n2 : Nat} {n3 : Nat} {m1 : Nat} {m2 : Nat} (hp0 : Bd n1 a) (hp1 : Bd n2 b) (hp2 : Bd n3 c) (hp3 : Bd m1 x) (hp4 : Bd m2 y) (hp5 : n1 + m1 + m1 ≤ 900000 ∧ n2 + m1 + m2 ≤ 900000 ∧ n3 + m2 + m2 ≤ 900000) : R_worth [fm a b c, pt x y] (.int (wv a b c x y)) := ⟨_, _, _, _, _, _, _, _, _, _, rfl, hp0, hp1, hp2, hp3, hp4, hp5, rfl⟩

theorem sc_worth : FnScope ["form", "point", "x", "y"] ["form", "point"] (defScope (top 9)) := ⟨rfl, rfl, rfl, by decide +kernel, rfl, by decide +kernel, by decide +kernel⟩
theorem ok_worth (T : Md K mg) (D : DefAt K mg "worth" "worth" (top 9) ["form", "point"])  : Ok P w K mg base 1 "worth" ["form", "point"] (spD K R_worth) := by
  refine ok_pure D sc_worth (fun ds d h => by obtain ⟨a, b, c, x, y, n1, n2, n3, m1, m2, rfl, _⟩ := h; rfl) fun f cdv A outer s H E hr => ?_
  refine ⟨_, (pss_cons (ps_asg (pv 1) (pg_tupK (K := K) 2 (by exact rfl) rfl (pgs_cons (pg_name (i := 2) sc_worth.nd rfl (Or.inl rfl)) (pgs_cons (pg_name (i := 3) sc_worth.nd rfl (Or.inl rfl)) pgs_nil)) (by rfl) (by rfl)))
      (pss_one (ps_ret (pe_op op_add (pe_op op_add (pe_op op_mulX (pe_op op_mulX (pe_ix (ix_tupK (K := K) (by exact rfl)) (pv 0) pe_int (fun _ _ => rfl)) (pv 2)) (pv 2)) (pe_op op_mulX (pe_op op_mulX (pe_ix (ix_tupK (K := K) (by exact rfl)) (pv 0) pe_int (fun _ _ => rfl)) (pv 2)) (pv 3))) (pe_op op_mulX (pe_op op_mulX (pe_ix (ix_tupK (K := K) (by exact rfl)) (pv 0) pe_int (fun _ _ => rfl)) (pv 3)) (pv 3)))))), ?_⟩
  rintro _ _ ⟨a, b, c, x, y, n1, n2, n3, m1, m2, rfl, h0, h1, h2, h3, h4, h5, rfl⟩
  show SD K none _ [.d (fm a b c), .d (pt x y), .no, .no] none _ _ _ _
  obtain ⟨h6, h7, h8⟩ := h5
  refine q_asgG (by walk_at "ev") (by walk_at "tg") ?_
  exact s_ret (by walk_at "ev") rfl

local macro_rules | `(tactic| walk_at "call") => `(tactic| ((with_reducible apply i_worth); all_goals (walk_at "pre")))

def R_act (ds : List PyData) (d : PyData) : Prop := ∃ (a : Int) (b : Int) (c : Int) (p : Int) (q : Int) (r : Int) (s : Int) (n1 : Nat) (n2 : Nat) (n3 : Nat) (m : Nat), ds = [fm a b c, mt p q r s] ∧ Bd n1 a ∧ Bd n2 b ∧ Bd n3 c ∧ Bd m p ∧ Bd m q ∧ Bd m r ∧ Bd m s ∧ (n1 + m + m ≤ 800000 ∧ n2 + m + m ≤ 800000 ∧ n3 + m + m ≤ 800000) ∧ d = fm (wv a b c p r) (am a b c p q r s) (wv a b c q s)
theorem i_act {a : Int} {b : Int} {c : Int} {p : Int} {q : Int} {r : Int} {s : Int} {n1 : Nat} {n2 : Nat} {n3 : Nat} {m : Nat} (hp0 : Bd n1 a) (hp1 : Bd n2 b) (hp2 : Bd n3 c) (hp3 : Bd m p) (hp4 : Bd m q) (hp5 : Bd m r) (hp6 : Bd m s) (hp7 : n1 + m + m ≤ 800000 ∧ n2 + m + m ≤ 800000 ∧ n3 + m + m ≤ 800000) : R_act [fm a b c, mt p q r s] (fm (wv a b c p r) (am a b c p q r s) (wv a b c q s)) := ⟨_, _, _, _, _, _, _, _, _, _, _, rfl, hp0, hp1, hp2, hp3, hp4, hp5, hp6, hp7, rfl⟩

theorem sc_act : FnScope ["form", "m", "p", "q", "r", "s", "middle"] ["form", "m"] (defScope (top 10)) := ⟨rfl, rfl, rfl, by decide +kernel, rfl, by decide +kernel, by decide +kernel⟩
theorem ok_act (T : Md K mg) (D : DefAt K mg "act" "act" (top 10) ["form", "m"]) (Gworth : Ok P w K mg base 1 "worth" ["form", "point"] (spD K R_worth)) : Ok P w K mg base 2 "act" ["form", "m"] (spD K R_act) := by
  refine ok_pure D sc_act (fun ds d h => by obtain ⟨a, b, c, p, q, r, s, n1, n2, n3, m, rfl, _⟩ := h; rfl) fun f cdv A outer s H E hr => ?_
  refine ⟨_, (pss_cons (ps_asg (pv 1) (pg_tupK (K := K) 4 (by exact rfl) rfl (pgs_cons (pg_name (i := 2) sc_act.nd rfl (Or.inl rfl)) (pgs_cons (pg_name (i := 3) sc_act.nd rfl (Or.inl rfl)) (pgs_cons (pg_name (i := 4) sc_act.nd rfl (Or.inl rfl)) (pgs_cons (pg_name (i := 5) sc_act.nd rfl (Or.inl rfl)) pgs_nil)))) (by rfl) (by rfl)))
      (pss_cons (ps_set (i := 6) sc_act.nd rfl (Or.inl rfl) (pe_op op_add (pe_op op_add (pe_op op_mulX (pe_op op_mulX (pe_op op_mulX pe_int (pe_ix (ix_tupK (K := K) (by exact rfl)) (pv 0) pe_int (fun _ _ => rfl))) (pv 2)) (pv 3)) (pe_op op_mulX (pe_ix (ix_tupK (K := K) (by exact rfl)) (pv 0) pe_int (fun _ _ => rfl)) (pe_op op_add (pe_op op_mulX (pv 2) (pv 5)) (pe_op op_mulX (pv 3) (pv 4))))) (pe_op op_mulX (pe_op op_mulX (pe_op op_mulX pe_int (pe_ix (ix_tupK (K := K) (by exact rfl)) (pv 0) pe_int (fun _ _ => rfl))) (pv 4)) (pv 5))))
      (pss_one (ps_ret (pe_tup (pa_cons (pe_callO Gworth (hr.mono (by decide)) (by rfl) (pa_cons (pv 0) (pa_cons (pe_tup (pa_cons (pv 2) (pa_cons (pv 4) pa_nil))) pa_nil))) (pa_cons (pv 6) (pa_cons (pe_callO Gworth (hr.mono (by decide)) (by rfl) (pa_cons (pv 0) (pa_cons (pe_tup (pa_cons (pv 3) (pa_cons (pv 5) pa_nil))) pa_nil))) pa_nil)))))))), ?_⟩
  rintro _ _ ⟨a, b, c, p, q, r, s, n1, n2, n3, m, rfl, h0, h1, h2, h3, h4, h5, h6, h7, rfl⟩
  show SD K none _ [.d (fm a b c), .d (mt p q r s), .no, .no, .no, .no, .no] none _ _ _ _
  obtain ⟨k1, k2, k3⟩ := h7
  refine q_asgG (by walk_at "ev") (by walk_at "tg") ?_
  refine q_asg (by walk_at "ev") ?_
  exact s_ret (by walk_at "ev") rfl

local macro_rules | `(tactic| walk_at "call") => `(tactic| ((with_reducible apply i_act); all_goals (walk_at "pre")))

def R_discriminant (ds : List PyData) (d : PyData) : Prop := ∃ (a : Int) (b : Int) (c : Int), ds = [fm a b c] ∧ Bd 60 b ∧ Bd 60 c ∧ d = .int (dsc a b c)
theorem i_discriminant {a : Int} {b : Int} {c : Int} (hp0 : Bd 60 b) (hp1 : Bd 60 c) : R_discriminant [fm a b c] (.int (dsc a b c)) := ⟨_, _, _, rfl, hp0, hp1, rfl⟩

theorem sc_discriminant : FnScope ["form"] ["form"] (defScope (top 7)) := ⟨rfl, rfl, rfl, by decide +kernel, rfl, by decide +kernel, by decide +kernel⟩
theorem ok_discriminant (T : Md K mg) (D : DefAt K mg "discriminant" "discriminant" (top 7) ["form"])  : Ok P w K mg base 1 "discriminant" ["form"] (spD K R_discriminant) := by
  refine ok_pure D sc_discriminant (fun ds d h => by obtain ⟨a, b, c, rfl, _⟩ := h; rfl) fun f cdv A outer s H E hr => ?_
  refine ⟨_, (pss_one (ps_ret (pe_op op_sub (pe_op op_mulX (pe_ix (ix_tupK (K := K) (by exact rfl)) (pv 0) pe_int (fun _ _ => rfl)) (pe_ix (ix_tupK (K := K) (by exact rfl)) (pv 0) pe_int (fun _ _ => rfl))) (pe_op op_mulX (pe_op op_mulX pe_int (pe_ix (ix_tupK (K := K) (by exact rfl)) (pv 0) pe_int (fun _ _ => rfl))) (pe_ix (ix_tupK (K := K) (by exact rfl)) (pv 0) pe_int (fun _ _ => rfl)))))), ?_⟩
  rintro _ _ ⟨a, b, c, rfl, h0, h1, rfl⟩
  show SD K none _ [.d (fm a b c)] none _ _ _ _
  exact s_ret (by walk_at "ev") rfl

local macro_rules | `(tactic| walk_at "call") => `(tactic| ((with_reducible apply i_discriminant); all_goals (walk_at "pre")))

def R_scaled (ds : List PyData) (d : PyData) : Prop := ∃ (a : Int) (b : Int) (c : Int) (k : Int), ds = [fm a b c, .int k] ∧ Bd 60 k ∧ d = fm (a * k) (b * k) (c * k)
theorem i_scaled {a : Int} {b : Int} {c : Int} {k : Int} (hp0 : Bd 60 k) : R_scaled [fm a b c, .int k] (fm (a * k) (b * k) (c * k)) := ⟨_, _, _, _, rfl, hp0, rfl⟩

theorem sc_scaled : FnScope ["form", "number"] ["form", "number"] (defScope (top 11)) := ⟨rfl, rfl, rfl, by decide +kernel, rfl, by decide +kernel, by decide +kernel⟩
theorem ok_scaled (T : Md K mg) (D : DefAt K mg "scaled" "scaled" (top 11) ["form", "number"])  : Ok P w K mg base 1 "scaled" ["form", "number"] (spD K R_scaled) := by
  refine ok_pure D sc_scaled (fun ds d h => by obtain ⟨a, b, c, k, rfl, _⟩ := h; rfl) fun f cdv A outer s H E hr => ?_
  refine ⟨_, (pss_one (ps_ret (pe_tup (pa_cons (pe_op op_mulX (pe_ix (ix_tupK (K := K) (by exact rfl)) (pv 0) pe_int (fun _ _ => rfl)) (pv 1)) (pa_cons (pe_op op_mulX (pe_ix (ix_tupK (K := K) (by exact rfl)) (pv 0) pe_int (fun _ _ => rfl)) (pv 1)) (pa_cons (pe_op op_mulX (pe_ix (ix_tupK (K := K) (by exact rfl)) (pv 0) pe_int (fun _ _ => rfl)) (pv 1)) pa_nil)))))), ?_⟩
  rintro _ _ ⟨a, b, c, k, rfl, h0, rfl⟩
  show SD K none _ [.d (fm a b c), .d (.int k)] none _ _ _ _
  exact s_ret (by walk_at "ev") rfl

local macro_rules | `(tactic| walk_at "call") => `(tactic| ((with_reducible apply i_scaled); all_goals (walk_at "pre")))

def R_divided (ds : List PyData) (d : PyData) : Prop := ∃ (a : Int) (b : Int) (c : Int) (k : Int), ds = [fm a b c, .int k] ∧ k ≠ 0 ∧ Bd 60 k ∧ d = fm (a.fdiv k) (b.fdiv k) (c.fdiv k)
theorem i_divided {a : Int} {b : Int} {c : Int} {k : Int} (hp0 : k ≠ 0) (hp1 : Bd 60 k) : R_divided [fm a b c, .int k] (fm (a.fdiv k) (b.fdiv k) (c.fdiv k)) := ⟨_, _, _, _, rfl, hp0, hp1, rfl⟩

theorem sc_divided : FnScope ["form", "number"] ["form", "number"] (defScope (top 12)) := ⟨rfl, rfl, rfl, by decide +kernel, rfl, by decide +kernel, by decide +kernel⟩
theorem ok_divided (T : Md K mg) (D : DefAt K mg "divided" "divided" (top 12) ["form", "number"])  : Ok P w K mg base 1 "divided" ["form", "number"] (spD K R_divided) := by
  refine ok_pure D sc_divided (fun ds d h => by obtain ⟨a, b, c, k, rfl, _⟩ := h; rfl) fun f cdv A outer s H E hr => ?_
  refine ⟨_, (pss_one (ps_ret (pe_tup (pa_cons (pe_op op_fdX (pe_ix (ix_tupK (K := K) (by exact rfl)) (pv 0) pe_int (fun _ _ => rfl)) (pv 1)) (pa_cons (pe_op op_fdX (pe_ix (ix_tupK (K := K) (by exact rfl)) (pv 0) pe_int (fun _ _ => rfl)) (pv 1)) (pa_cons (pe_op op_fdX (pe_ix (ix_tupK (K := K) (by exact rfl)) (pv 0) pe_int (fun _ _ => rfl)) (pv 1)) pa_nil)))))), ?_⟩
  rintro _ _ ⟨a, b, c, k, rfl, h0, h1, rfl⟩
  show SD K none _ [.d (fm a b c), .d (.int k)] none _ _ _ _
  exact s_ret (by walk_at "ev") rfl

local macro_rules | `(tactic| walk_at "call") => `(tactic| ((with_reducible apply i_divided); all_goals (walk_at "pre")))

def R_multiply (ds : List PyData) (d : PyData) : Prop := ∃ (a : Int) (b : Int) (c : Int) (e : Int) (p : Int) (q : Int) (r : Int) (s : Int) (n : Nat) (m : Nat), ds = [mt a b c e, mt p q r s] ∧ Bd n a ∧ Bd n b ∧ Bd n c ∧ Bd n e ∧ Bd m p ∧ Bd m q ∧ Bd m r ∧ Bd m s ∧ n + m ≤ 900000 ∧ d = mt (a * p + b * r) (a * q + b * s) (c * p + e * r) (c * q + e * s)
theorem i_multiply {a : Int} {b : Int} {c : Int} {e : Int} {p : Int} {q : Int} {r : Int} {s : Int} {n : Nat} {m : Nat} (hp0 : Bd n a) (hp1 : Bd n b) (hp2 : Bd n c) (hp3 : Bd n e) (hp4 : Bd m p) (hp5 : Bd m q) (hp6 : Bd m r) (hp7 : Bd m s) (hp8 : n + m ≤ 900000) : R_multiply [mt a b c e, mt p q r s] (mt (a * p + b * r) (a * q + b * s) (c * p + e * r) (c * q + e * s)) := ⟨_, _, _, _, _, _, _, _, _, _, rfl, hp0, hp1, hp2, hp3, hp4, hp5, hp6, hp7, hp8, rfl⟩

theorem sc_multiply : FnScope ["m", "n"] ["m", "n"] (defScope (top 16)) := ⟨rfl, rfl, rfl, by decide +kernel, rfl, by decide +kernel, by decide +kernel⟩
theorem ok_multiply (T : Md K mg) (D : DefAt K mg "multiply" "multiply" (top 16) ["m", "n"])  : Ok P w K mg base 1 "multiply" ["m", "n"] (spD K R_multiply) := by
  refine ok_pure D sc_multiply (fun ds d h => by obtain ⟨a, b, c, e, p, q, r, s, n, m, rfl, _⟩ := h; rfl) fun f cdv A outer s H E hr => ?_
  refine ⟨_, (pss_one (ps_ret (pe_tup (pa_cons (pe_op op_add (pe_op op_mulX (pe_ix (ix_tupK (K := K) (by exact rfl)) (pv 0) pe_int (fun _ _ => rfl)) (pe_ix (ix_tupK (K := K) (by exact rfl)) (pv 1) pe_int (fun _ _ => rfl))) (pe_op op_mulX (pe_ix (ix_tupK (K := K) (by exact rfl)) (pv 0) pe_int (fun _ _ => rfl)) (pe_ix (ix_tupK (K := K) (by exact rfl)) (pv 1) pe_int (fun _ _ => rfl)))) (pa_cons (pe_op op_add (pe_op op_mulX (pe_ix (ix_tupK (K := K) (by exact rfl)) (pv 0) pe_int (fun _ _ => rfl)) (pe_ix (ix_tupK (K := K) (by exact rfl)) (pv 1) pe_int (fun _ _ => rfl))) (pe_op op_mulX (pe_ix (ix_tupK (K := K) (by exact rfl)) (pv 0) pe_int (fun _ _ => rfl)) (pe_ix (ix_tupK (K := K) (by exact rfl)) (pv 1) pe_int (fun _ _ => rfl)))) (pa_cons (pe_op op_add (pe_op op_mulX (pe_ix (ix_tupK (K := K) (by exact rfl)) (pv 0) pe_int (fun _ _ => rfl)) (pe_ix (ix_tupK (K := K) (by exact rfl)) (pv 1) pe_int (fun _ _ => rfl))) (pe_op op_mulX (pe_ix (ix_tupK (K := K) (by exact rfl)) (pv 0) pe_int (fun _ _ => rfl)) (pe_ix (ix_tupK (K := K) (by exact rfl)) (pv 1) pe_int (fun _ _ => rfl)))) (pa_cons (pe_op op_add (pe_op op_mulX (pe_ix (ix_tupK (K := K) (by exact rfl)) (pv 0) pe_int (fun _ _ => rfl)) (pe_ix (ix_tupK (K := K) (by exact rfl)) (pv 1) pe_int (fun _ _ => rfl))) (pe_op op_mulX (pe_ix (ix_tupK (K := K) (by exact rfl)) (pv 0) pe_int (fun _ _ => rfl)) (pe_ix (ix_tupK (K := K) (by exact rfl)) (pv 1) pe_int (fun _ _ => rfl)))) pa_nil))))))), ?_⟩
  rintro _ _ ⟨a, b, c, e, p, q, r, s, n, m, rfl, h0, h1, h2, h3, h4, h5, h6, h7, h8, rfl⟩
  show SD K none _ [.d (mt a b c e), .d (mt p q r s)] none _ _ _ _
  exact s_ret (by walk_at "ev") rfl

local macro_rules | `(tactic| walk_at "call") => `(tactic| ((with_reducible apply i_multiply); all_goals (walk_at "pre")))

def R_determinant (ds : List PyData) (d : PyData) : Prop := ∃ (p : Int) (q : Int) (r : Int) (s : Int) (m : Nat), ds = [mt p q r s] ∧ Bd m p ∧ Bd m q ∧ Bd m r ∧ Bd m s ∧ m + m ≤ 900000 ∧ d = .int (p * s - q * r)
theorem i_determinant {p : Int} {q : Int} {r : Int} {s : Int} {m : Nat} (hp0 : Bd m p) (hp1 : Bd m q) (hp2 : Bd m r) (hp3 : Bd m s) (hp4 : m + m ≤ 900000) : R_determinant [mt p q r s] (.int (p * s - q * r)) := ⟨_, _, _, _, _, rfl, hp0, hp1, hp2, hp3, hp4, rfl⟩

theorem sc_determinant : FnScope ["m"] ["m"] (defScope (top 17)) := ⟨rfl, rfl, rfl, by decide +kernel, rfl, by decide +kernel, by decide +kernel⟩
theorem ok_determinant (T : Md K mg) (D : DefAt K mg "determinant" "determinant" (top 17) ["m"])  : Ok P w K mg base 1 "determinant" ["m"] (spD K R_determinant) := by
  refine ok_pure D sc_determinant (fun ds d h => by obtain ⟨p, q, r, s, m, rfl, _⟩ := h; rfl) fun f cdv A outer s H E hr => ?_
  refine ⟨_, (pss_one (ps_ret (pe_op op_sub (pe_op op_mulX (pe_ix (ix_tupK (K := K) (by exact rfl)) (pv 0) pe_int (fun _ _ => rfl)) (pe_ix (ix_tupK (K := K) (by exact rfl)) (pv 0) pe_int (fun _ _ => rfl))) (pe_op op_mulX (pe_ix (ix_tupK (K := K) (by exact rfl)) (pv 0) pe_int (fun _ _ => rfl)) (pe_ix (ix_tupK (K := K) (by exact rfl)) (pv 0) pe_int (fun _ _ => rfl)))))), ?_⟩
  rintro _ _ ⟨p, q, r, s, m, rfl, h0, h1, h2, h3, h4, rfl⟩
  show SD K none _ [.d (mt p q r s)] none _ _ _ _
  exact s_ret (by walk_at "ev") rfl

local macro_rules | `(tactic| walk_at "call") => `(tactic| ((with_reducible apply i_determinant); all_goals (walk_at "pre")))

def R_inverse (ds : List PyData) (d : PyData) : Prop := ∃ (p : Int) (q : Int) (r : Int) (s : Int) (m : Nat), ds = [mt p q r s] ∧ Bd m p ∧ Bd m q ∧ Bd m r ∧ Bd m s ∧ m + m ≤ 900000 ∧ p * s - q * r = 1 ∧ d = mt s (-q) (-r) p
theorem i_inverse {p : Int} {q : Int} {r : Int} {s : Int} {m : Nat} (hp0 : Bd m p) (hp1 : Bd m q) (hp2 : Bd m r) (hp3 : Bd m s) (hp4 : m + m ≤ 900000) (hp5 : p * s - q * r = 1) : R_inverse [mt p q r s] (mt s (-q) (-r) p) := ⟨_, _, _, _, _, rfl, hp0, hp1, hp2, hp3, hp4, hp5, rfl⟩

theorem sc_inverse : FnScope ["m", "sign"] ["m"] (defScope (top 18)) := ⟨rfl, rfl, rfl, by decide +kernel, rfl, by decide +kernel, by decide +kernel⟩
theorem ok_inverse (T : Md K mg) (D : DefAt K mg "inverse" "inverse" (top 18) ["m"]) (Gdeterminant : Ok P w K mg base 1 "determinant" ["m"] (spD K R_determinant)) : Ok P w K mg base 2 "inverse" ["m"] (spD K R_inverse) := by
  refine ok_pure D sc_inverse (fun ds d h => by obtain ⟨p, q, r, s, m, rfl, _⟩ := h; rfl) fun f cdv A outer s H E hr => ?_
  refine ⟨_, (pss_cons (ps_set (i := 1) sc_inverse.nd rfl (Or.inl rfl) (pe_callO Gdeterminant (hr.mono (by decide)) (by rfl) (pa_cons (pv 0) pa_nil)))
      (pss_one (ps_ret (pe_tup (pa_cons (pe_op op_mulX (pv 1) (pe_ix (ix_tupK (K := K) (by exact rfl)) (pv 0) pe_int (fun _ _ => rfl))) (pa_cons (pe_op op_mulX (pe_un un_neg (pv 1)) (pe_ix (ix_tupK (K := K) (by exact rfl)) (pv 0) pe_int (fun _ _ => rfl))) (pa_cons (pe_op op_mulX (pe_un un_neg (pv 1)) (pe_ix (ix_tupK (K := K) (by exact rfl)) (pv 0) pe_int (fun _ _ => rfl))) (pa_cons (pe_op op_mulX (pv 1) (pe_ix (ix_tupK (K := K) (by exact rfl)) (pv 0) pe_int (fun _ _ => rfl))) pa_nil)))))))), ?_⟩
  rintro _ _ ⟨p, q, r, s, m, rfl, h0, h1, h2, h3, h4, h5, rfl⟩
  show SD K none _ [.d (mt p q r s), .no] none _ _ _ _
  have e1 : Bd 60 (p * s - q * r) := by rw [h5]; exact Bd.of (by decide)
  have e2 : Bd 60 (-(p * s - q * r)) := by rw [h5]; exact Bd.of (by decide)
  refine q_asg (by walk_at "ev") ?_
  refine s_ret (by walk_at "ev") ?_
  rw [h5]
  simp

local macro_rules | `(tactic| walk_at "call") => `(tactic| ((with_reducible apply i_inverse); all_goals (walk_at "pre")))

def R_floor_root (ds : List PyData) (d : PyData) : Prop := ∃ (n : Int), ds = [.int n] ∧ 0 ≤ n ∧ n < 2 ^ 64 ∧ d = .int (isq n)
theorem i_floor_root {n : Int} (hp0 : 0 ≤ n) (hp1 : n < 2 ^ 64) : R_floor_root [.int n] (.int (isq n)) := ⟨_, rfl, hp0, hp1, rfl⟩

theorem sc_floor_root : FnScope ["n"] ["n"] (defScope (top 4)) := ⟨rfl, rfl, rfl, by decide +kernel, rfl, by decide +kernel, by decide +kernel⟩
theorem ok_floor_root (T : Md K mg) (D : DefAt K mg "floor_root" "floor_root" (top 4) ["n"])  : Ok P w K mg base 1 "floor_root" ["n"] (spD K R_floor_root) := by
  refine ok_pure D sc_floor_root (fun ds d h => by obtain ⟨n, rfl, _⟩ := h; rfl) fun f cdv A outer s H E hr => ?_
  refine ⟨_, (pss_one (ps_ret (pe_callBfun cr_isq (by rfl) T.isqrt (pa_cons (pv 0) pa_nil)))), ?_⟩
  rintro _ _ ⟨n, rfl, h0, h1, rfl⟩
  show SD K none _ [.d (.int n)] none _ _ _ _
  exact s_ret (by walk_at "ev") rfl

local macro_rules | `(tactic| walk_at "call") => `(tactic| ((with_reducible apply i_floor_root); all_goals (walk_at "pre")))

def R_is_square (ds : List PyData) (d : PyData) : Prop := ∃ (n : Int), ds = [.int n] ∧ n < 2 ^ 64 ∧ d = .bool (isSqB n)
theorem i_is_square {n : Int} (hp0 : n < 2 ^ 64) : R_is_square [.int n] (.bool (isSqB n)) := ⟨_, rfl, hp0, rfl⟩

theorem sc_is_square : FnScope ["n"] ["n"] (defScope (top 5)) := ⟨rfl, rfl, rfl, by decide +kernel, rfl, by decide +kernel, by decide +kernel⟩
theorem ok_is_square (T : Md K mg) (D : DefAt K mg "is_square" "is_square" (top 5) ["n"])  : Ok P w K mg base 1 "is_square" ["n"] (spD K R_is_square) := by
  refine ok_pure D sc_is_square (fun ds d h => by obtain ⟨n, rfl, _⟩ := h; rfl) fun f cdv A outer s H E hr => ?_
  refine ⟨_, (pss_one (ps_ret (pe_and (pe_cmpR op_ge (pv 0) pe_int (nomark _)) (pe_one (pe_cmpR (op_eqDK (K := K) (by exact rfl) hr.units) (pe_op op_mulX (pe_callBfun cr_isq (by rfl) T.isqrt (pa_cons (pv 0) pa_nil)) (pe_callBfun cr_isq (by rfl) T.isqrt (pa_cons (pv 0) pa_nil))) (pv 0) (nomark _)))))), ?_⟩
  rintro _ _ ⟨n, rfl, h0, rfl⟩
  show SD K none _ [.d (.int n)] none _ _ _ _
  have hq : 0 ≤ n → Bd 60 (isq n) := fun h => by
    obtain ⟨s1, s2, _⟩ := isq_spec n h
    refine Bd.of ?_
    have s3 : isq n < 2 ^ 33 := by
      rcases Int.lt_or_le (isq n) (2 ^ 33) with k | k
      · exact k
      · have := Int.mul_le_mul k k (by decide) (by omega)
        omega
    omega
  refine s_ret (d := .bool (isSqB n)) ?_ rfl
  refine ev_andV (by walk_at "ev") fun hh => ?_
  have h1 : 0 ≤ n := of_decide_eq_true hh
  have h2 := hq h1
  walk_at "ev"

local macro_rules | `(tactic| walk_at "call") => `(tactic| ((with_reducible apply i_is_square); all_goals (walk_at "pre")))

def R_kind (ds : List PyData) (d : PyData) : Prop := ∃ (a : Int) (b : Int) (c : Int), ds = [fm a b c] ∧ Bd 40 a ∧ Bd 40 b ∧ Bd 40 c ∧ dsc a b c < 2 ^ 60 ∧ d = .str (kn (dsc a b c))
theorem i_kind {a : Int} {b : Int} {c : Int} (hp0 : Bd 40 a) (hp1 : Bd 40 b) (hp2 : Bd 40 c) (hp3 : dsc a b c < 2 ^ 60) : R_kind [fm a b c] (.str (kn (dsc a b c))) := ⟨_, _, _, rfl, hp0, hp1, hp2, hp3, rfl⟩

theorem sc_kind : FnScope ["form", "d"] ["form"] (defScope (top 13)) := ⟨rfl, rfl, rfl, by decide +kernel, rfl, by decide +kernel, by decide +kernel⟩
theorem ok_kind (T : Md K mg) (D : DefAt K mg "kind" "kind" (top 13) ["form"]) (Gis_square : Ok P w K mg base 1 "is_square" ["n"] (spD K R_is_square)) (Gdiscriminant : Ok P w K mg base 1 "discriminant" ["form"] (spD K R_discriminant)) : Ok P w K mg base 2 "kind" ["form"] (spD K R_kind) := by
  refine ok_pure D sc_kind (fun ds d h => by obtain ⟨a, b, c, rfl, _⟩ := h; rfl) fun f cdv A outer s H E hr => ?_
  refine ⟨_, (pss_cons (ps_set (i := 1) sc_kind.nd rfl (Or.inl rfl) (pe_callO Gdiscriminant (hr.mono (by decide)) (by rfl) (pa_cons (pv 0) pa_nil)))
      (pss_cons (ps_if (pt_cmpR op_lt (pv 1) pe_int (nomark _)) (pss_one (ps_ret pe_str)) pss_nil)
      (pss_cons (ps_if (pt_cmpR (op_eqDK (K := K) (by exact rfl) hr.units) (pv 1) pe_int (nomark _)) (pss_one (ps_ret pe_str)) pss_nil)
      (pss_one (ps_ret (pe_ifExp (pt_val (pe_callO Gis_square (hr.mono (by decide)) (by rfl) (pa_cons (pv 1) pa_nil))) pe_str pe_str)))))), ?_⟩
  rintro _ _ ⟨a, b, c, rfl, h0, h1, h2, h3, rfl⟩
  show SD K none _ [.d (fm a b c), .no] none _ _ _ _
  refine q_asg (by walk_at "ev") ?_
  refine s_seq (M := fun e o => e = [.d (fm a b c), .d (.int (dsc a b c))] ∧ o = none ∧ ¬ dsc a b c < 0) (s_if (by walk_at "et") (fun hh => ?_) fun hh => ?_) ?_
  · refine s_ret (by walk_at "ev") ?_
    have := of_decide_eq_true hh
    unfold kn
    rw [if_pos this]
  · exact s_next ⟨rfl, rfl, of_decide_eq_false hh⟩
  rintro _ _ ⟨rfl, rfl, k1⟩
  refine s_seq (M := fun e o => e = [.d (fm a b c), .d (.int (dsc a b c))] ∧ o = none ∧ ¬ dsc a b c = 0) (s_if (by walk_at "et") (fun hh => ?_) fun hh => ?_) ?_
  · refine s_ret (by walk_at "ev") ?_
    have := of_decide_eq_true hh
    unfold kn
    rw [if_neg k1, if_pos this]
  · exact s_next ⟨rfl, rfl, of_decide_eq_false hh⟩
  rintro _ _ ⟨rfl, rfl, k2⟩
  have k3 : dsc a b c < 2 ^ 64 := by omega
  refine s_ret (d := .str (kn (dsc a b c))) (ev_if (b := isSqB (dsc a b c)) (et_B (by walk_at "ev")) (fun hh => ?_) fun hh => ?_) rfl
  · unfold kn
    rw [if_neg k1, if_neg k2, if_pos hh]
    exact ev_str
  · unfold kn
    rw [if_neg k1, if_neg k2, if_neg (by rw [hh]; decide)]
    exact ev_str

local macro_rules | `(tactic| walk_at "call") => `(tactic| ((with_reducible apply i_kind); all_goals (walk_at "pre")))

def R_is_reduced_definite (ds : List PyData) (d : PyData) : Prop := ∃ (a : Int) (b : Int) (c : Int), ds = [fm a b c] ∧ d = .bool (rdB a b c)
theorem i_is_reduced_definite {a : Int} {b : Int} {c : Int}  : R_is_reduced_definite [fm a b c] (.bool (rdB a b c)) := ⟨_, _, _, rfl, rfl⟩

theorem sc_is_reduced_definite : FnScope ["form", "a", "b", "c"] ["form"] (defScope (top 20)) := ⟨rfl, rfl, rfl, by decide +kernel, rfl, by decide +kernel, by decide +kernel⟩
theorem ok_is_reduced_definite (T : Md K mg) (D : DefAt K mg "is_reduced_definite" "is_reduced" (top 20) ["form"])  : Ok P w K mg base 1 "is_reduced_definite" ["form"] (spD K R_is_reduced_definite) := by
  refine ok_pure D sc_is_reduced_definite (fun ds d h => by obtain ⟨a, b, c, rfl, _⟩ := h; rfl) fun f cdv A outer s H E hr => ?_
  refine ⟨_, (pss_cons (ps_asg (pv 0) (pg_tupK (K := K) 3 (by exact rfl) rfl (pgs_cons (pg_name (i := 1) sc_is_reduced_definite.nd rfl (Or.inl rfl)) (pgs_cons (pg_name (i := 2) sc_is_reduced_definite.nd rfl (Or.inl rfl)) (pgs_cons (pg_name (i := 3) sc_is_reduced_definite.nd rfl (Or.inl rfl)) pgs_nil))) (by rfl) (by rfl)))
      (pss_cons (ps_if (pt_not (pt_chain3 op_lt op_le op_le (pe_un un_neg (pv 1)) (pv 2) (pv 1) (pv 3))) (pss_one (ps_ret pe_bl)) pss_nil)
      (pss_one (ps_ret (pe_or (pe_cmpR op_ge (pv 2) pe_int (nomark _)) (pe_one (pe_cmpR op_lt (pv 1) (pv 3) (nomark _)))))))), ?_⟩
  rintro _ _ ⟨a, b, c, rfl, rfl⟩
  show SD K none _ [.d (fm a b c), .no, .no, .no] none _ _ _ _
  refine q_asgG (by walk_at "ev") (by walk_at "tg") ?_
  refine s_seq (M := fun e o => e = [.d (fm a b c), .d (.int a), .d (.int b), .d (.int c)] ∧ o = none ∧ (-a < b ∧ b ≤ a ∧ a ≤ c)) (s_if (b := !(decide (-a < b) && (decide (b ≤ a) && decide (a ≤ c)))) (et_not (et_chain3 (by walk_at "ev") (by walk_at "ev") (by walk_at "rv") (fun _ => by walk_at "ev") (fun _ => by walk_at "rv") (fun _ _ => by walk_at "ev") (fun _ _ => by walk_at "rv"))) (fun hh => ?_) fun hh => ?_) ?_
  · refine s_ret (by walk_at "ev") ?_
    unfold rdB
    rw [decide_eq_false]
    intro z
    simp [z.1, z.2.1, z.2.2.1] at hh
  · refine s_next ⟨rfl, rfl, ?_⟩
    simp at hh
    exact hh
  rintro _ _ ⟨rfl, rfl, k1, k2, k3⟩
  refine s_ret (by walk_at "ev") ?_
  unfold rdB
  simp [k1, k2, k3]

local macro_rules | `(tactic| walk_at "call") => `(tactic| ((with_reducible apply i_is_reduced_definite)))

end
end Kx

-- K2
set_option maxHeartbeats 2000000
namespace Kx
open PySem PySem.Spec PyProof.Rows L2
local macro_rules | `(tactic| walk_at "bd") => `(tactic| first | assumption | exact Bd.lit (by decide) | ((with_reducible apply Bd.mul) <;> walk_at "bd") | ((with_reducible apply Bd.add) <;> walk_at "bd") | ((with_reducible apply Bd.sub) <;> walk_at "bd") | ((with_reducible apply Bd.neg); walk_at "bd"))
local macro_rules | `(tactic| walk_at "mul") => `(tactic| first | assumption | exact mulok_l (Bd.mono (by walk_at "bd") (by omega)) | exact mulok_r (Bd.mono (by walk_at "bd") (by omega)) | ((with_reducible apply mulok); (focus walk_at "bd"); (focus walk_at "bd"); omega))
local macro_rules | `(tactic| walk_at "cond") => `(tactic| first | assumption | walk_at "mul" | exact cfd (by first | assumption | omega) (by walk_at "bd") (by omega) | omega | decide)
local macro_rules | `(tactic| walk_at "rv") => `(tactic| first | with_reducible exact rv_I0 | with_reducible exact rv_B0 | with_reducible exact rv_eqI | with_reducible exact rv_neI | with_reducible exact rv_eqF | with_reducible exact rv_neF | with_reducible exact rv_eqS | ((with_reducible apply rv_I); walk_at "cond") | ((with_reducible apply rv_ixT); exact rfl) | ((with_reducible apply rv_ixL); exact rfl) | with_reducible exact rv_isN | with_reducible exact rv_notN | exact rv_cat (Nat.le_of_ble_eq_true rfl))
local macro_rules | `(tactic| walk_at "ev") => `(tactic| first
  | ((with_reducible apply ev_var); exact rfl) | with_reducible exact ev_int | with_reducible exact ev_bl | with_reducible exact ev_str | with_reducible exact ev_non | exact ev_quad (by assumption)
  | ((with_reducible apply ev_op); (focus walk_at "ev"); (focus walk_at "ev"); (focus walk_at "rv"))
  | ((with_reducible apply ev_un); (focus walk_at "ev"); with_reducible exact ru_I)
  | ((with_reducible apply ev_tup); (focus walk_at "ea"); exact Nat.le_of_ble_eq_true rfl)
  | ((with_reducible apply ev_lst); (focus walk_at "ea"); exact Nat.le_of_ble_eq_true rfl)
  | ((with_reducible apply ev_call); (focus walk_at "ea"); (focus walk_at "call"))
  | ((with_reducible apply ev_cb); (focus walk_at "ea"); (focus walk_at "rc"))
  | ((with_reducible apply ev_andV); (focus walk_at "ev"); (intro hh_; (focus walk_at "ev")))
  | ((with_reducible apply ev_orV); (focus walk_at "ev"); (intro hh_; (focus walk_at "ev")))
  | ((with_reducible apply ev_chain); (focus walk_at "ev"); (focus walk_at "ev"); (focus walk_at "rv"); (intro hh_; (focus walk_at "ev")); (intro hh_; (focus walk_at "rv")))
  | ((with_reducible apply ev_notV); walk_at "ev")
  | ((with_reducible apply ev_cut2); walk_at "ev"))
local macro_rules | `(tactic| walk_at "ea") => `(tactic| first | with_reducible exact ea_nil | ((with_reducible apply ea_cons); (focus walk_at "ev"); (focus walk_at "ea")))
local macro_rules | `(tactic| walk_at "rc") => `(tactic| first | with_reducible exact rc_abs | with_reducible exact rc_intI | with_reducible exact rc_intB | with_reducible exact rc_lenL | with_reducible exact rc_tupOf | exact rc_isq (by assumption) (by assumption) | exact rc_isq (by omega) (by omega))
local macro_rules | `(tactic| walk_at "et") => `(tactic| first
  | ((with_reducible apply et_test); walk_at "ev")
  | ((with_reducible apply et_B); walk_at "ev")
  | ((with_reducible apply et_and); (focus walk_at "et"); (intro hh_; (focus walk_at "et")))
  | ((with_reducible apply et_or); (focus walk_at "et"); (intro hh_; (focus walk_at "et")))
  | ((with_reducible apply et_not); walk_at "et"))
local macro_rules | `(tactic| walk_at "tg") => `(tactic| first | with_reducible exact tg_name | ((with_reducible apply tg_tup); (focus walk_at "tgs"); exact rfl) | ((with_reducible apply tg_unl); (focus walk_at "tgs"); exact rfl))
local macro_rules | `(tactic| walk_at "tgs") => `(tactic| first | with_reducible exact tg_nil | ((with_reducible apply tg_cons); (focus walk_at "tg"); (focus walk_at "tgs")))
local macro_rules | `(tactic| walk_at "pre") => `(tactic| first | assumption | walk_at "bd" | exact Bd.mono (by walk_at "bd") (by omega) | omega | decide)

local macro_rules | `(tactic| walk_at "call") => `(tactic| ((with_reducible apply i_worth); all_goals (walk_at "pre")))

local macro_rules | `(tactic| walk_at "call") => `(tactic| ((with_reducible apply i_act); all_goals (walk_at "pre")))

local macro_rules | `(tactic| walk_at "call") => `(tactic| ((with_reducible apply i_discriminant); all_goals (walk_at "pre")))

local macro_rules | `(tactic| walk_at "call") => `(tactic| ((with_reducible apply i_scaled); all_goals (walk_at "pre")))

local macro_rules | `(tactic| walk_at "call") => `(tactic| ((with_reducible apply i_divided); all_goals (walk_at "pre")))

local macro_rules | `(tactic| walk_at "call") => `(tactic| ((with_reducible apply i_multiply); all_goals (walk_at "pre")))

local macro_rules | `(tactic| walk_at "call") => `(tactic| ((with_reducible apply i_determinant); all_goals (walk_at "pre")))

local macro_rules | `(tactic| walk_at "call") => `(tactic| ((with_reducible apply i_inverse); all_goals (walk_at "pre")))

local macro_rules | `(tactic| walk_at "call") => `(tactic| ((with_reducible apply i_floor_root); all_goals (walk_at "pre")))

local macro_rules | `(tactic| walk_at "call") => `(tactic| ((with_reducible apply i_is_square); all_goals (walk_at "pre")))

local macro_rules | `(tactic| walk_at "call") => `(tactic| ((with_reducible apply i_kind); all_goals (walk_at "pre")))

local macro_rules | `(tactic| walk_at "call") => `(tactic| ((with_reducible apply i_is_reduced_definite)))


section
variable {P : Program} {w : World} {K : Fg} {mg : Str → Option Value} {base : Heap}

def Pre_bezout (ds : List PyData) : Prop := ∃ (a : Int) (b : Int), ds = [.int a, .int b] ∧ Bd 45 a ∧ Bd 45 b
def Post_bezout (ds : List PyData) (d : PyData) : Prop := ∀ (a : Int) (b : Int), ds = [.int a, .int b] → ∃ u v : Int, d = .tuple [.int ((Int.gcd a b : Nat) : Int), .int u, .int v] ∧ u * a + v * b = ((Int.gcd a b : Nat) : Int) ∧ Bd 46 u ∧ Bd 100 v

theorem gcd_bd {n : Nat} {a b : Int} (ha : Bd n a) (hb : Bd n b) : Bd n ((Int.gcd a b : Nat) : Int) := by
  unfold Bd at *
  rw [Int.natAbs_natCast]
  by_cases h : a = 0
  · subst h
    simpa using hb
  · exact Nat.lt_of_le_of_lt (Nat.le_of_dvd (Int.natAbs_pos.mpr h) (Nat.gcd_dvd_left _ _)) ha
def BzI (a b : Int) (m : Nat) (e : List Sl) (o : OS) : Prop := ∃ (low lu lv high hu hv : Int) (p : Sl), e = [.d (.int a), .d (.int b), .d (.int low), .d (.int lu), .d (.int lv), .d (.int high), .d (.int hu), .d (.int hv), p] ∧ o = none ∧ m = high.natAbs ∧
  low = lu * a + lv * b ∧ high = hu * a + hv * b ∧ Int.gcd low high = Int.gcd a b ∧ Bd 45 low ∧ Bd 45 high ∧ Mth.Bz low high lu hu b ∧ Bd 46 lu ∧ Bd 46 hu ∧ (b = 0 → high = 0 ∧ lv = 0)
theorem sc_bezout : FnScope ["a", "b", "low", "low_u", "low_v", "high", "high_u", "high_v", "part"] ["a", "b"] (defScope (top 2)) := ⟨rfl, rfl, rfl, by decide +kernel, rfl, by decide +kernel, by decide +kernel⟩
theorem ok_bezout (T : Md K mg) (D : DefAt K mg "bezout" "bezout" (top 2) ["a", "b"])  : Ok P w K mg base 1 "bezout" ["a", "b"] (spP K Pre_bezout Post_bezout) := by
  refine ok_rel D sc_bezout (fun ds h => by obtain ⟨a, b, rfl, _⟩ := h; rfl) fun f cdv A outer s H E hr => ?_
  refine ⟨_, (pss_cons (ps_par3 (i := 2) (j := 3) (l := 4) (by rfl) sc_bezout.nd rfl rfl rfl (by decide) (by decide) (by decide) rfl rfl rfl (pa_cons (pv 0) (pa_cons pe_int (pa_cons pe_int pa_nil))) (by rfl))
      (pss_cons (ps_par3 (i := 5) (j := 6) (l := 7) (by rfl) sc_bezout.nd rfl rfl rfl (by decide) (by decide) (by decide) rfl rfl rfl (pa_cons (pv 1) (pa_cons pe_int (pa_cons pe_int pa_nil))) (by rfl))
      (pss_cons (ps_while PassesOwn.never (pt_cmpR (op_neDK (K := K) (by exact rfl) hr.units) (pv 5) pe_int (nomark _)) (pss_cons (ps_set (i := 8) sc_bezout.nd rfl (Or.inl rfl) (pe_op op_fdX (pv 2) (pv 5)))
      (pss_cons (ps_par (i := 2) (j := 5) (by rfl) sc_bezout.nd rfl rfl (by decide) rfl rfl (pa_cons (pv 5) (pa_cons (pe_op op_sub (pv 2) (pe_op op_mulX (pv 8) (pv 5))) pa_nil)) (by rfl))
      (pss_cons (ps_par (i := 3) (j := 6) (by rfl) sc_bezout.nd rfl rfl (by decide) rfl rfl (pa_cons (pv 6) (pa_cons (pe_op op_sub (pv 3) (pe_op op_mulX (pv 8) (pv 6))) pa_nil)) (by rfl))
      (pss_one (ps_par (i := 4) (j := 7) (by rfl) sc_bezout.nd rfl rfl (by decide) rfl rfl (pa_cons (pv 7) (pa_cons (pe_op op_sub (pv 4) (pe_op op_mulX (pv 8) (pv 7))) pa_nil)) (by rfl)))))))
      (pss_cons (ps_if (pt_cmpR op_lt (pv 2) pe_int (nomark _)) (pss_one (ps_ret (pe_tup (pa_cons (pe_un un_neg (pv 2)) (pa_cons (pe_un un_neg (pv 3)) (pa_cons (pe_un un_neg (pv 4)) pa_nil)))))) pss_nil)
      (pss_one (ps_ret (pe_tup (pa_cons (pv 2) (pa_cons (pv 3) (pa_cons (pv 4) pa_nil)))))))))), ?_⟩
  rintro _ ⟨a, b, rfl, h0, h1⟩
  show SD K none _ [.d (.int a), .d (.int b), .no, .no, .no, .no, .no, .no, .no] none _ _ _ _
  refine q_par3 (by walk_at "ea") ?_
  refine q_par3 (by walk_at "ea") ?_
  refine s_seq (M := fun e o => ∃ m, BzI a b m e o ∧ ∃ low lu lv hu hv p, e = [.d (.int a), .d (.int b), .d (.int low), .d (.int lu), .d (.int lv), .d (.int 0), .d (.int hu), .d (.int hv), p] ∧ o = none ∧ low = lu * a + lv * b ∧ Int.gcd low 0 = Int.gcd a b ∧ Bd 46 lu ∧ (b = 0 → lv = 0)) (s_while (BzI a b) (m0 := b.natAbs) ⟨a, 1, 0, b, 0, 1, .no, rfl, rfl, rfl, by omega, by omega, rfl, h0, h1, ⟨by decide, .inr rfl, by omega⟩, Bd.of (by decide), Bd.of (by decide), fun z => ⟨z, rfl⟩⟩ ?_) ?_
  · rintro m e o ⟨low, lu, lv, high, hu, hv, p, rfl, rfl, rfl, e1, e2, e3, b1, b2, bz, c1, c2, c3⟩
    refine ⟨!decide (high = 0), by walk_at "et", fun hh => ?_, fun hh => ?_⟩
    · have hne : high ≠ 0 := by simpa using hh
      obtain ⟨f1, f2, f3⟩ := Mth.fdiv_spec low high hne
      obtain ⟨bz2, bz3⟩ := Mth.bz_step hne bz
      have b3 : Bd 45 (low.fdiv high) := Bd.of (Nat.lt_of_le_of_lt f3 b1)
      have b4 : Bd 45 (low.fmod high) := Bd.of (Nat.lt_trans f2 b2)
      refine q_asg (by walk_at "ev") ?_
      refine q_par (by walk_at "ea") ?_
      refine q_par (by walk_at "ea") ?_
      refine s_par (by walk_at "ea") ?_
      refine ⟨_, f2, high, hu, hv, low.fmod high, lu - low.fdiv high * hu, lv - low.fdiv high * hv, .d (.int (low.fdiv high)), ?_, rfl, rfl, e2, ?_, ?_, b2, b4, bz2, c2, Bd.of (Nat.lt_of_le_of_lt bz3 (Nat.lt_trans h1 (by decide))), fun z => absurd (c3 z).1 hne⟩
      · rw [← f1]
        rfl
      · rw [← f1]
        grind
      · rw [← f1, Int.gcd_sub_mul_right_right, Int.gcd_comm]
        exact e3
    · have hz : high = 0 := by simpa using hh
      subst hz
      exact ⟨0, ⟨low, lu, lv, 0, hu, hv, p, rfl, rfl, rfl, e1, e2, e3, b1, b2, bz, c1, c2, c3⟩, low, lu, lv, hu, hv, p, rfl, rfl, e1, e3, c1, fun z => (c3 z).2⟩
  rintro _ _ ⟨m, _, low, lu, lv, hu, hv, p, rfl, rfl, e1, e3, c1, c3⟩
  have bv : Bd 100 lv := by
    by_cases hb : b = 0
    · rw [c3 hb]
      exact Bd.of (by decide)
    · have hl : low.natAbs < 2 ^ 46 := by
        have e4 : low.natAbs = Int.gcd a b := by
          rw [← e3]
          simp
        have := gcd_bd (h0.mono (show 45 ≤ 46 by decide)) (h1.mono (show 45 ≤ 46 by decide))
        rw [e4]
        have k : ((Int.gcd a b : Nat) : Int).natAbs < 2 ^ 46 := this
        omega
      have e5 : lv * b = low - lu * a := by omega
      have e6 : Bd 92 (low - lu * a) := ((Bd.of hl).sub (c1.mul h0)).mono (by decide)
      rw [← e5] at e6
      have e7 : (lv * b).natAbs < 2 ^ 92 := e6
      rw [Int.natAbs_mul] at e7
      have e8 : lv.natAbs * 1 ≤ lv.natAbs * b.natAbs := Nat.mul_le_mul_left _ (by omega)
      exact Bd.of (by omega)
  have hg : ((Int.gcd a b : Nat) : Int) = low.natAbs := by
    rw [← e3]
    simp
  refine s_seq (M := fun e o => e = [.d (.int a), .d (.int b), .d (.int low), .d (.int lu), .d (.int lv), .d (.int 0), .d (.int hu), .d (.int hv), p] ∧ o = none ∧ 0 ≤ low) (s_if (by walk_at "et") (fun hh => ?_) fun hh => ?_) ?_
  · have hn := of_decide_eq_true hh
    refine s_ret (by walk_at "ev") ?_
    intro a' b' hab
    cases hab
    refine ⟨-lu, -lv, ?_, ?_, c1.neg, bv.neg⟩
    · rw [hg]
      have : ((low.natAbs : Nat) : Int) = -low := by omega
      rw [this]
    · rw [hg]
      have : ((low.natAbs : Nat) : Int) = -low := by omega
      rw [this]
      grind
  · have hn := of_decide_eq_false hh
    exact s_next ⟨rfl, rfl, by omega⟩
  rintro _ _ ⟨rfl, rfl, h⟩
  refine s_ret (by walk_at "ev") ?_
  intro a' b' hab
  cases hab
  have : ((low.natAbs : Nat) : Int) = low := by omega
  exact ⟨lu, lv, by rw [hg, this], by rw [hg, this, e1], c1, bv⟩


def R_measure (ds : List PyData) (d : PyData) : Prop := ∃ (ns : List Int), ds = [.tuple (ns.map .int)] ∧ (∀ n, n ∈ ns → Bd 45 n) ∧ d = .int (gl ns)
theorem i_measure {ns : List Int} (hp0 : ∀ n, n ∈ ns → Bd 45 n) : R_measure [.tuple (ns.map .int)] (.int (gl ns)) := ⟨_, rfl, hp0, rfl⟩

theorem gl_snoc (ns : List Int) (n : Int) : gl (ns ++ [n]) = ((Int.gcd (gl ns) n : Nat) : Int) := by
  unfold gl
  rw [List.foldl_append]
  rfl
theorem gl_take {ns : List Int} {i : Nat} {n : Int} (h : ns[i]? = some n) : gl (ns.take (i + 1)) = ((Int.gcd (gl (ns.take i)) n : Nat) : Int) := by
  rw [List.take_add_one, h]
  exact gl_snoc _ _
theorem gl_bd {ns : List Int} (h : ∀ n, n ∈ ns → Bd 45 n) : Bd 45 (gl ns) := by
  have go : ∀ (ns : List Int) (g : Int), Bd 45 g → (∀ n, n ∈ ns → Bd 45 n) → Bd 45 (ns.foldl (fun g n => ((Int.gcd g n : Nat) : Int)) g) := by
    intro ns
    induction ns with
    | nil => exact fun g hg _ => hg
    | cons n r ih => exact fun g hg hn => ih _ (gcd_bd hg (hn n List.mem_cons_self)) fun m hm => hn m (List.mem_cons_of_mem _ hm)
  exact go ns 0 (Bd.of (by decide)) h
theorem sc_measure : FnScope ["numbers", "found", "number"] ["numbers"] (defScope (top 3)) := ⟨rfl, rfl, rfl, by decide +kernel, rfl, by decide +kernel, by decide +kernel⟩
theorem ok_measure (T : Md K mg) (D : DefAt K mg "measure" "measure" (top 3) ["numbers"]) (Gbezout : Ok P w K mg base 1 "bezout" ["a", "b"] (spP K Pre_bezout Post_bezout)) : Ok P w K mg base 2 "measure" ["numbers"] (spD K R_measure) := by
  refine ok_pure D sc_measure (fun ds d h => by obtain ⟨ns, rfl, _⟩ := h; rfl) fun f cdv A outer s H E hr => ?_
  refine ⟨_, (pss_cons (ps_set (i := 1) sc_measure.nd rfl (Or.inl rfl) pe_int)
      (pss_cons (ps_for PassesOwn.never rfl (pi_tupK (K := K) (by exact rfl) (pv 0)) (pg_name (i := 2) sc_measure.nd rfl (Or.inl rfl)) (pss_one (ps_set (i := 1) sc_measure.nd rfl (Or.inl rfl) (pe_ix (ix_tupK (K := K) (by exact rfl)) (pe_callO Gbezout (hr.mono (by decide)) (by rfl) (pa_cons (pv 1) (pa_cons (pv 2) pa_nil))) pe_int (fun _ _ => rfl)))))
      (pss_one (ps_ret (pv 1))))), ?_⟩
  rintro _ _ ⟨ns, rfl, h0, rfl⟩
  show SD K none _ [.d (.tuple (ns.map .int)), .no, .no] none _ _ _ _
  refine q_asg (by walk_at "ev") ?_
  refine s_seq (M := fun e o => ∃ p, e = [.d (.tuple (ns.map .int)), .d (.int (gl ns)), p] ∧ o = none) (s_forT (ds := ns.map .int) (fun i e o => ∃ p, e = [.d (.tuple (ns.map .int)), .d (.int (gl (ns.take i))), p] ∧ o = none) (by walk_at "ev") ⟨.no, rfl, rfl⟩ ?_ ?_) ?_
  · rintro i d e o hi ⟨p, rfl, rfl⟩
    rw [List.getElem?_map] at hi
    cases hn : ns[i]? with
    | none =>
      rw [hn] at hi
      cases hi
    | some n =>
      rw [hn] at hi
      cases hi
      refine ⟨_, tg_name, ?_⟩
      have hb : Bd 45 (gl (ns.take i)) := gl_bd fun n hn => h0 n (List.mem_of_mem_take hn)
      have hb2 : Bd 45 n := h0 n (List.mem_of_getElem? hn)
      refine s_asgR (er_op (er_callP' (by walk_at "ea") ⟨_, _, rfl, hb, hb2⟩ fun d hd => ?_))
      obtain ⟨u, v, rfl, _⟩ := hd _ _ rfl
      refine EvD.toR ev_int ?_
      refine ⟨_, rv_ixT rfl, _, tg_name, .d (.int n), ?_, rfl⟩
      rw [gl_take hn]
      rfl
  · rintro e o ⟨p, rfl, rfl⟩
    rw [List.length_map, List.take_length]
    exact ⟨p, rfl, rfl⟩
  rintro _ _ ⟨p, rfl, rfl⟩
  exact s_ret (by walk_at "ev") rfl

local macro_rules | `(tactic| walk_at "call") => `(tactic| ((with_reducible apply i_measure); all_goals (walk_at "pre")))

def R_content (ds : List PyData) (d : PyData) : Prop := ∃ (a : Int) (b : Int) (c : Int), ds = [fm a b c] ∧ Bd 45 a ∧ Bd 45 b ∧ Bd 45 c ∧ d = .int (gl [a, b, c])
theorem i_content {a : Int} {b : Int} {c : Int} (hp0 : Bd 45 a) (hp1 : Bd 45 b) (hp2 : Bd 45 c) : R_content [fm a b c] (.int (gl [a, b, c])) := ⟨_, _, _, rfl, hp0, hp1, hp2, rfl⟩

theorem sc_content : FnScope ["form"] ["form"] (defScope (top 8)) := ⟨rfl, rfl, rfl, by decide +kernel, rfl, by decide +kernel, by decide +kernel⟩
theorem ok_content (T : Md K mg) (D : DefAt K mg "content" "content" (top 8) ["form"]) (Gmeasure : Ok P w K mg base 2 "measure" ["numbers"] (spD K R_measure)) : Ok P w K mg base 3 "content" ["form"] (spD K R_content) := by
  refine ok_pure D sc_content (fun ds d h => by obtain ⟨a, b, c, rfl, _⟩ := h; rfl) fun f cdv A outer s H E hr => ?_
  refine ⟨_, (pss_one (ps_ret (pe_callO Gmeasure (hr.mono (by decide)) (by rfl) (pa_cons (pv 0) pa_nil)))), ?_⟩
  rintro _ _ ⟨a, b, c, rfl, h0, h1, h2, rfl⟩
  show SD K none _ [.d (fm a b c)] none _ _ _ _
  have hb : ∀ n, n ∈ [a, b, c] → Bd 45 n := by
    intro n hn
    simp at hn
    rcases hn with rfl | rfl | rfl <;> assumption
  refine s_ret (d := .int (gl [a, b, c])) (ev_call (ds := [.tuple ([a, b, c].map .int)]) (by walk_at "ea") (i_measure hb)) rfl

local macro_rules | `(tactic| walk_at "call") => `(tactic| ((with_reducible apply i_content); all_goals (walk_at "pre")))

end
end Kx

-- K3
set_option maxHeartbeats 2000000
namespace Kx
open PySem PySem.Spec PyProof.Rows L2
local macro_rules | `(tactic| walk_at "bd") => `(tactic| first | assumption | exact Bd.lit (by decide) | ((with_reducible apply Bd.mul) <;> walk_at "bd") | ((with_reducible apply Bd.add) <;> walk_at "bd") | ((with_reducible apply Bd.sub) <;> walk_at "bd") | ((with_reducible apply Bd.neg); walk_at "bd"))
local macro_rules | `(tactic| walk_at "mul") => `(tactic| first | assumption | exact mulok_l (Bd.mono (by walk_at "bd") (by omega)) | exact mulok_r (Bd.mono (by walk_at "bd") (by omega)) | ((with_reducible apply mulok); (focus walk_at "bd"); (focus walk_at "bd"); omega))
local macro_rules | `(tactic| walk_at "cond") => `(tactic| first | assumption | walk_at "mul" | exact cfd (by first | assumption | omega) (by walk_at "bd") (by omega) | omega | decide)
local macro_rules | `(tactic| walk_at "rv") => `(tactic| first | with_reducible exact rv_I0 | with_reducible exact rv_B0 | with_reducible exact rv_eqI | with_reducible exact rv_neI | with_reducible exact rv_eqF | with_reducible exact rv_neF | with_reducible exact rv_eqS | ((with_reducible apply rv_I); walk_at "cond") | ((with_reducible apply rv_ixT); exact rfl) | ((with_reducible apply rv_ixL); exact rfl) | with_reducible exact rv_isN | with_reducible exact rv_notN | exact rv_cat (Nat.le_of_ble_eq_true rfl))
local macro_rules | `(tactic| walk_at "ev") => `(tactic| first
  | ((with_reducible apply ev_var); exact rfl) | with_reducible exact ev_int | with_reducible exact ev_bl | with_reducible exact ev_str | with_reducible exact ev_non | exact ev_quad (by assumption)
  | ((with_reducible apply ev_op); (focus walk_at "ev"); (focus walk_at "ev"); (focus walk_at "rv"))
  | ((with_reducible apply ev_un); (focus walk_at "ev"); with_reducible exact ru_I)
  | ((with_reducible apply ev_tup); (focus walk_at "ea"); exact Nat.le_of_ble_eq_true rfl)
  | ((with_reducible apply ev_lst); (focus walk_at "ea"); exact Nat.le_of_ble_eq_true rfl)
  | ((with_reducible apply ev_call); (focus walk_at "ea"); (focus walk_at "call"))
  | ((with_reducible apply ev_cb); (focus walk_at "ea"); (focus walk_at "rc"))
  | ((with_reducible apply ev_andV); (focus walk_at "ev"); (intro hh_; (focus walk_at "ev")))
  | ((with_reducible apply ev_orV); (focus walk_at "ev"); (intro hh_; (focus walk_at "ev")))
  | ((with_reducible apply ev_chain); (focus walk_at "ev"); (focus walk_at "ev"); (focus walk_at "rv"); (intro hh_; (focus walk_at "ev")); (intro hh_; (focus walk_at "rv")))
  | ((with_reducible apply ev_notV); walk_at "ev")
  | ((with_reducible apply ev_cut2); walk_at "ev"))
local macro_rules | `(tactic| walk_at "ea") => `(tactic| first | with_reducible exact ea_nil | ((with_reducible apply ea_cons); (focus walk_at "ev"); (focus walk_at "ea")))
local macro_rules | `(tactic| walk_at "rc") => `(tactic| first | with_reducible exact rc_abs | with_reducible exact rc_intI | with_reducible exact rc_intB | with_reducible exact rc_lenL | with_reducible exact rc_tupOf | exact rc_isq (by assumption) (by assumption) | exact rc_isq (by omega) (by omega))
local macro_rules | `(tactic| walk_at "et") => `(tactic| first
  | ((with_reducible apply et_test); walk_at "ev")
  | ((with_reducible apply et_B); walk_at "ev")
  | ((with_reducible apply et_and); (focus walk_at "et"); (intro hh_; (focus walk_at "et")))
  | ((with_reducible apply et_or); (focus walk_at "et"); (intro hh_; (focus walk_at "et")))
  | ((with_reducible apply et_not); walk_at "et"))
local macro_rules | `(tactic| walk_at "tg") => `(tactic| first | with_reducible exact tg_name | ((with_reducible apply tg_tup); (focus walk_at "tgs"); exact rfl) | ((with_reducible apply tg_unl); (focus walk_at "tgs"); exact rfl))
local macro_rules | `(tactic| walk_at "tgs") => `(tactic| first | with_reducible exact tg_nil | ((with_reducible apply tg_cons); (focus walk_at "tg"); (focus walk_at "tgs")))
local macro_rules | `(tactic| walk_at "pre") => `(tactic| first | assumption | walk_at "bd" | exact Bd.mono (by walk_at "bd") (by omega) | omega | decide)

local macro_rules | `(tactic| walk_at "call") => `(tactic| ((with_reducible apply i_worth); all_goals (walk_at "pre")))

local macro_rules | `(tactic| walk_at "call") => `(tactic| ((with_reducible apply i_act); all_goals (walk_at "pre")))

local macro_rules | `(tactic| walk_at "call") => `(tactic| ((with_reducible apply i_discriminant); all_goals (walk_at "pre")))

local macro_rules | `(tactic| walk_at "call") => `(tactic| ((with_reducible apply i_scaled); all_goals (walk_at "pre")))

local macro_rules | `(tactic| walk_at "call") => `(tactic| ((with_reducible apply i_divided); all_goals (walk_at "pre")))

local macro_rules | `(tactic| walk_at "call") => `(tactic| ((with_reducible apply i_multiply); all_goals (walk_at "pre")))

local macro_rules | `(tactic| walk_at "call") => `(tactic| ((with_reducible apply i_determinant); all_goals (walk_at "pre")))

local macro_rules | `(tactic| walk_at "call") => `(tactic| ((with_reducible apply i_inverse); all_goals (walk_at "pre")))

local macro_rules | `(tactic| walk_at "call") => `(tactic| ((with_reducible apply i_floor_root); all_goals (walk_at "pre")))

local macro_rules | `(tactic| walk_at "call") => `(tactic| ((with_reducible apply i_is_square); all_goals (walk_at "pre")))

local macro_rules | `(tactic| walk_at "call") => `(tactic| ((with_reducible apply i_kind); all_goals (walk_at "pre")))

local macro_rules | `(tactic| walk_at "call") => `(tactic| ((with_reducible apply i_is_reduced_definite)))


local macro_rules | `(tactic| walk_at "call") => `(tactic| ((with_reducible apply i_measure); all_goals (walk_at "pre")))

local macro_rules | `(tactic| walk_at "call") => `(tactic| ((with_reducible apply i_content); all_goals (walk_at "pre")))

open Mth in
abbrev dF (f : Mth.F3) : PyData := fm f.a f.b f.c
abbrev dM (m : Mth.M4) : PyData := mt m.p m.q m.r m.s
structure BdM (n : Nat) (m : Mth.M4) : Prop where
  p : Bd n m.p
  q : Bd n m.q
  r : Bd n m.r
  s : Bd n m.s
theorem BdM.mono {n k : Nat} {m : Mth.M4} (h : BdM n m) (e : n ≤ k) : BdM k m := ⟨h.p.mono e, h.q.mono e, h.r.mono e, h.s.mono e⟩
theorem BdM.mul {n k : Nat} {m x : Mth.M4} (h : BdM n m) (g : BdM k x) : BdM (n + k + 1) (Mth.mulM m x) := by
  have go : ∀ {a b c d : Int}, Bd n a → Bd k b → Bd n c → Bd k d → Bd (n + k + 1) (a * b + c * d) := fun ha hb hc hd => by
    have := (ha.mul hb).add (hc.mul hd)
    rw [Nat.max_self] at this
    exact this
  exact ⟨go h.p g.p h.q g.r, go h.p g.q h.q g.s, go h.r g.p h.s g.r, go h.r g.q h.s g.s⟩
theorem BdM.one : BdM 1 Mth.one := ⟨Bd.of (by decide), Bd.of (by decide), Bd.of (by decide), Bd.of (by decide)⟩
theorem BdM.inv {n : Nat} {m : Mth.M4} (h : BdM n m) : BdM n (Mth.invM m) := ⟨h.s, h.q.neg, h.r.neg, h.p⟩
structure BdF (n : Nat) (f : Mth.F3) : Prop where
  a : Bd n f.a
  b : Bd n f.b
  c : Bd n f.c
theorem dF_inj {f g : Mth.F3} (h : dF f = dF g) : f = g := by
  simp only [PyData.tuple.injEq, List.cons.injEq, PyData.int.injEq] at h
  exact Mth.F3.ext h.1 h.2.1 h.2.2.1
theorem dM_inj {f g : Mth.M4} (h : dM f = dM g) : f = g := by
  simp only [PyData.tuple.injEq, List.cons.injEq, PyData.int.injEq] at h
  exact Mth.M4.ext h.1 h.2.1 h.2.2.1 h.2.2.2.1
theorem dF1 {f g : Mth.F3} (h : [dF f] = [dF g]) : f = g := dF_inj (List.cons.inj h).1
theorem dF2 {f g f' g' : Mth.F3} (h : [dF f, dF f'] = [dF g, dF g']) : f = g ∧ f' = g' := ⟨dF_inj (List.cons.inj h).1, dF1 (List.cons.inj h).2⟩
theorem rdB_iff (f : Mth.F3) : rdB f.a f.b f.c = true ↔ Mth.red f := decide_eq_true_iff
theorem i_actM {f : Mth.F3} {m : Mth.M4} {n k : Nat} (hf : BdF n f) (hm : BdM k m) (h : n + k + k ≤ 800000) : R_act [dF f, dM m] (dF (Mth.actF f m)) := i_act hf.a hf.b hf.c hm.p hm.q hm.r hm.s ⟨h, h, h⟩
theorem i_mulM {m x : Mth.M4} {n k : Nat} (hm : BdM n m) (hx : BdM k x) (h : n + k ≤ 900000) : R_multiply [dM m, dM x] (dM (Mth.mulM m x)) := i_multiply hm.p hm.q hm.r hm.s hx.p hx.q hx.r hx.s h
theorem step_bd {f : Mth.F3} (h : BdF 40 f) (h0 : 0 < f.a) : BdM 42 (Mth.stepM f) := by
  unfold Mth.stepM
  split
  · exact ⟨Bd.of (by decide), Bd.of (by decide), Bd.of (by decide), Bd.of (by decide)⟩
  · refine ⟨show Bd 42 1 from Bd.of (by decide), ?_, show Bd 42 0 from Bd.of (by decide), show Bd 42 1 from Bd.of (by decide)⟩
    have h1 := (Mth.fdiv_spec (f.a - f.b) (2 * f.a) (by omega)).2.2
    have h2 : f.a.natAbs < 2 ^ 40 := h.a
    have h3 : f.b.natAbs < 2 ^ 40 := h.b
    refine Bd.of (Nat.lt_of_le_of_lt h1 ?_)
    omega

section
variable {P : Program} {w : World} {K : Fg} {mg : Str → Option Value} {base : Heap}

def Pre_reduce_positive (ds : List PyData) : Prop := ∃ (g : Mth.F3), ds = [dF g] ∧ 0 < g.a ∧ Mth.dscF g < 0 ∧ -1300 ≤ Mth.dscF g ∧ BdF 40 g
def Post_reduce_positive (ds : List PyData) (d : PyData) : Prop := ∀ (g : Mth.F3), ds = [dF g] → ∃ (f : Mth.F3) (m : Mth.M4), d = .tuple [dF f, dM m] ∧ Mth.red f ∧ 0 < f.a ∧ Mth.actF g m = f ∧ Mth.detM m = 1 ∧ BdM 10000 m

def RpI (g : Mth.F3) (k : Nat) (e : List Sl) (o : OS) : Prop := ∃ (f : Mth.F3) (m : Mth.M4) (n : Nat) (x1 x2 x3 x4 : Sl), e = [.d (dF f), .d (dM m), x1, x2, x3, x4] ∧ o = none ∧ k = Mth.mu f ∧ Mth.actF g m = f ∧ Mth.detM m = 1 ∧ 0 < f.a ∧ BdF 40 f ∧ BdM n m ∧ n + 45 * Mth.mu f ≤ 9600
theorem sc_reduce_positive : FnScope ["form", "m", "a", "b", "c", "step"] ["form"] (defScope (top 22)) := ⟨rfl, rfl, rfl, by decide +kernel, rfl, by decide +kernel, by decide +kernel⟩
theorem ok_reduce_positive (T : Md K mg) (D : DefAt K mg "reduce_positive" "reduce_positive" (top 22) ["form"]) (Gis_reduced_definite : Ok P w K mg base 1 "is_reduced_definite" ["form"] (spD K R_is_reduced_definite)) (Gmultiply : Ok P w K mg base 1 "multiply" ["m", "n"] (spD K R_multiply)) (Gact : Ok P w K mg base 2 "act" ["form", "m"] (spD K R_act)) : Ok P w K mg base 3 "reduce_positive" ["form"] (spP K Pre_reduce_positive Post_reduce_positive) := by
  obtain ⟨aU, hU, sU⟩ := T.unit
  refine ok_rel D sc_reduce_positive (fun ds h => by obtain ⟨g, rfl, _⟩ := h; rfl) fun f cdv A outer s H E hr => ?_
  refine ⟨_, (pss_cons (ps_set (i := 1) sc_reduce_positive.nd rfl (Or.inl rfl) (pe_glob (v := .ref aU) (by rfl) hU rfl))
      (pss_cons (ps_while PassesOwn.never (pt_not (pt_val (pe_callO Gis_reduced_definite (hr.mono (by decide)) (by rfl) (pa_cons (pv 0) pa_nil)))) (pss_cons (ps_asg (pv 0) (pg_tupK (K := K) 3 (by exact rfl) rfl (pgs_cons (pg_name (i := 2) sc_reduce_positive.nd rfl (Or.inl rfl)) (pgs_cons (pg_name (i := 3) sc_reduce_positive.nd rfl (Or.inl rfl)) (pgs_cons (pg_name (i := 4) sc_reduce_positive.nd rfl (Or.inl rfl)) pgs_nil))) (by rfl) (by rfl)))
      (pss_cons (ps_if (PW.pt (pw_or (pt_cmpR op_gt (pv 2) (pv 4) (nomark _)) (pw_or1 (PW.pt (pw_and (pt_cmpR (op_eqDK (K := K) (by exact rfl) hr.units) (pv 2) (pv 4) (nomark _)) (pw_and1 (pt_cmpR op_lt (pv 3) pe_int (nomark _)))))))) (pss_one (ps_set (i := 5) sc_reduce_positive.nd rfl (Or.inl rfl) (pe_tup (pa_cons pe_int (pa_cons (pe_un un_neg pe_int) (pa_cons pe_int (pa_cons pe_int pa_nil))))))) (pss_one (ps_set (i := 5) sc_reduce_positive.nd rfl (Or.inl rfl) (pe_tup (pa_cons pe_int (pa_cons (pe_op op_fdX (pe_op op_sub (pv 2) (pv 3)) (pe_op op_mulX pe_int (pv 2))) (pa_cons pe_int (pa_cons pe_int pa_nil))))))))
      (pss_cons (ps_set (i := 0) sc_reduce_positive.nd rfl (Or.inl rfl) (pe_callO Gact (hr.mono (by decide)) (by rfl) (pa_cons (pv 0) (pa_cons (pv 5) pa_nil))))
      (pss_one (ps_set (i := 1) sc_reduce_positive.nd rfl (Or.inl rfl) (pe_callO Gmultiply (hr.mono (by decide)) (by rfl) (pa_cons (pv 1) (pa_cons (pv 5) pa_nil)))))))))
      (pss_one (ps_ret (pe_tup (pa_cons (pv 0) (pa_cons (pv 1) pa_nil))))))), ?_⟩
  rintro _ ⟨g, rfl, h0, h1, h2, h3⟩
  show SD K none _ [.d (dF g), .no, .no, .no, .no, .no] none _ _ _ _
  refine q_asg (ev_quad sU) ?_
  have hmu := Mth.mu_le h0 (show g.a < 2 ^ 40 by have : g.a.natAbs < 2 ^ 40 := h3.a; omega) (show g.c < 2 ^ 40 by have : g.c.natAbs < 2 ^ 40 := h3.c; omega)
  refine s_seq (M := fun e o => ∃ k, RpI g k e o ∧ ∃ f m x1 x2 x3 x4, e = [.d (dF f), .d (dM m), x1, x2, x3, x4] ∧ Mth.red f) (s_while (RpI g) (m0 := Mth.mu g) ⟨g, Mth.one, 1, .no, .no, .no, .no, rfl, rfl, rfl, Mth.act_one g, rfl, h0, h3, BdM.one, by omega⟩ ?_) ?_
  · rintro k e o ⟨f, m, n, x1, x2, x3, x4, rfl, rfl, rfl, e1, e2, p0, p1, p2, p3⟩
    have hd : Mth.dscF f = Mth.dscF g := by rw [← e1]; exact Mth.dsc_act1 e2
    refine ⟨!rdB f.a f.b f.c, by walk_at "et", fun hh => ?_, fun hh => ?_⟩
    · have hr : ¬ Mth.red f := fun z => by
        rw [(rdB_iff f).mpr z] at hh
        cases hh
      refine q_asgG (by walk_at "ev") (by walk_at "tg") ?_
      refine s_seq (M := fun e o => e = [.d (dF f), .d (dM m), .d (.int f.a), .d (.int f.b), .d (.int f.c), .d (dM (Mth.stepM f))] ∧ o = none) (s_if (b := decide (f.c < f.a) || (decide (f.a = f.c) && decide (f.b < 0))) (by walk_at "et") (fun hb => ?_) fun hb => ?_) ?_
      · have hf : Mth.flips f := by
          simp at hb
          exact hb
        refine s_asg (d := mt 0 (-1) 1 0) (by walk_at "ev") ⟨?_, rfl⟩
        unfold Mth.stepM
        rw [if_pos hf]
        rfl
      · have hf : ¬ Mth.flips f := by
          simp at hb
          unfold Mth.flips
          omega
        have b1 : Bd 40 f.a := p1.a
        have b2 : Bd 40 f.b := p1.b
        have b3 : 2 * f.a ≠ 0 := by omega
        refine s_asg (d := mt 1 ((f.a - f.b).fdiv (2 * f.a)) 0 1) (by walk_at "ev") ⟨?_, rfl⟩
        unfold Mth.stepM
        rw [if_neg hf]
        rfl
      rintro _ _ ⟨rfl, rfl⟩
      have sb := step_bd p1 p0
      refine q_asg (ev_call (ds := [dF f, dM (Mth.stepM f)]) (by walk_at "ea") (i_actM p1 sb (by omega))) ?_
      refine s_asg (ev_call (ds := [dM m, dM (Mth.stepM f)]) (by walk_at "ea") (i_mulM p2 sb (by omega))) ?_
      have hlt := Mth.mu_step p0 (by rw [hd]; exact h1) (by rw [hd]; exact h2) hr
      obtain ⟨q0, q1, q2, q3⟩ := Mth.size_step p0 (by rw [hd]; exact h1) (by rw [hd]; exact h2) p1.a p1.b p1.c
      refine ⟨_, hlt, Mth.actF f (Mth.stepM f), Mth.mulM m (Mth.stepM f), n + 42 + 1, _, _, _, _, rfl, rfl, rfl, ?_, ?_, q0, ⟨q1, q2, q3⟩, p2.mul sb, by omega⟩
      · rw [← Mth.act_mul, e1]
      · rw [Mth.det_mul, e2, Mth.det_step]
        rfl
    · have hr : Mth.red f := (rdB_iff f).mp (by simpa using hh)
      exact ⟨_, ⟨f, m, n, x1, x2, x3, x4, rfl, rfl, rfl, e1, e2, p0, p1, p2, p3⟩, f, m, x1, x2, x3, x4, rfl, hr⟩
  rintro _ _ ⟨k, ⟨f, m, n, x1, x2, x3, x4, rfl, rfl, hk, e1, e2, p0, p1, p2, p3⟩, f', m', y1, y2, y3, y4, ee, hr⟩
  have e3 : f = f' := by
    exact dF_inj (Sl.d.inj (List.cons.inj ee).1)
  subst e3
  refine s_ret (by walk_at "ev") ?_
  intro g' hg
  have e4 := dF1 hg
  subst e4
  exact ⟨f, m, rfl, hr, p0, e1, e2, p2.mono (by omega)⟩


end
end Kx

-- K4
set_option maxHeartbeats 2000000
namespace Kx
open PySem PySem.Spec PyProof.Rows L2
local macro_rules | `(tactic| walk_at "bd") => `(tactic| first | assumption | exact Bd.lit (by decide) | ((with_reducible apply Bd.mul) <;> walk_at "bd") | ((with_reducible apply Bd.add) <;> walk_at "bd") | ((with_reducible apply Bd.sub) <;> walk_at "bd") | ((with_reducible apply Bd.neg); walk_at "bd"))
local macro_rules | `(tactic| walk_at "mul") => `(tactic| first | assumption | exact mulok_l (Bd.mono (by walk_at "bd") (by omega)) | exact mulok_r (Bd.mono (by walk_at "bd") (by omega)) | ((with_reducible apply mulok); (focus walk_at "bd"); (focus walk_at "bd"); omega))
local macro_rules | `(tactic| walk_at "cond") => `(tactic| first | assumption | walk_at "mul" | exact cfd (by first | assumption | omega) (by walk_at "bd") (by omega) | omega | decide)
local macro_rules | `(tactic| walk_at "rv") => `(tactic| first | with_reducible exact rv_I0 | with_reducible exact rv_B0 | with_reducible exact rv_eqI | with_reducible exact rv_neI | with_reducible exact rv_eqF | with_reducible exact rv_neF | with_reducible exact rv_eqS | ((with_reducible apply rv_I); walk_at "cond") | ((with_reducible apply rv_ixT); exact rfl) | ((with_reducible apply rv_ixL); exact rfl) | with_reducible exact rv_isN | with_reducible exact rv_notN | exact rv_cat (Nat.le_of_ble_eq_true rfl))
local macro_rules | `(tactic| walk_at "ev") => `(tactic| first
  | ((with_reducible apply ev_var); exact rfl) | with_reducible exact ev_int | with_reducible exact ev_bl | with_reducible exact ev_str | with_reducible exact ev_non | exact ev_quad (by assumption)
  | ((with_reducible apply ev_op); (focus walk_at "ev"); (focus walk_at "ev"); (focus walk_at "rv"))
  | ((with_reducible apply ev_un); (focus walk_at "ev"); with_reducible exact ru_I)
  | ((with_reducible apply ev_tup); (focus walk_at "ea"); exact Nat.le_of_ble_eq_true rfl)
  | ((with_reducible apply ev_lst); (focus walk_at "ea"); exact Nat.le_of_ble_eq_true rfl)
  | ((with_reducible apply ev_call); (focus walk_at "ea"); (focus walk_at "call"))
  | ((with_reducible apply ev_cb); (focus walk_at "ea"); (focus walk_at "rc"))
  | ((with_reducible apply ev_andV); (focus walk_at "ev"); (intro hh_; (focus walk_at "ev")))
  | ((with_reducible apply ev_orV); (focus walk_at "ev"); (intro hh_; (focus walk_at "ev")))
  | ((with_reducible apply ev_chain); (focus walk_at "ev"); (focus walk_at "ev"); (focus walk_at "rv"); (intro hh_; (focus walk_at "ev")); (intro hh_; (focus walk_at "rv")))
  | ((with_reducible apply ev_notV); walk_at "ev")
  | ((with_reducible apply ev_cut2); walk_at "ev"))
local macro_rules | `(tactic| walk_at "ea") => `(tactic| first | with_reducible exact ea_nil | ((with_reducible apply ea_cons); (focus walk_at "ev"); (focus walk_at "ea")))
local macro_rules | `(tactic| walk_at "rc") => `(tactic| first | with_reducible exact rc_abs | with_reducible exact rc_intI | with_reducible exact rc_intB | with_reducible exact rc_lenL | with_reducible exact rc_tupOf | exact rc_isq (by assumption) (by assumption) | exact rc_isq (by omega) (by omega))
local macro_rules | `(tactic| walk_at "et") => `(tactic| first
  | ((with_reducible apply et_test); walk_at "ev")
  | ((with_reducible apply et_B); walk_at "ev")
  | ((with_reducible apply et_and); (focus walk_at "et"); (intro hh_; (focus walk_at "et")))
  | ((with_reducible apply et_or); (focus walk_at "et"); (intro hh_; (focus walk_at "et")))
  | ((with_reducible apply et_not); walk_at "et"))
local macro_rules | `(tactic| walk_at "tg") => `(tactic| first | with_reducible exact tg_name | ((with_reducible apply tg_tup); (focus walk_at "tgs"); exact rfl) | ((with_reducible apply tg_unl); (focus walk_at "tgs"); exact rfl))
local macro_rules | `(tactic| walk_at "tgs") => `(tactic| first | with_reducible exact tg_nil | ((with_reducible apply tg_cons); (focus walk_at "tg"); (focus walk_at "tgs")))
local macro_rules | `(tactic| walk_at "pre") => `(tactic| first | assumption | walk_at "bd" | exact Bd.mono (by walk_at "bd") (by omega) | omega | decide)

local macro_rules | `(tactic| walk_at "call") => `(tactic| ((with_reducible apply i_worth); all_goals (walk_at "pre")))

local macro_rules | `(tactic| walk_at "call") => `(tactic| ((with_reducible apply i_act); all_goals (walk_at "pre")))

local macro_rules | `(tactic| walk_at "call") => `(tactic| ((with_reducible apply i_discriminant); all_goals (walk_at "pre")))

local macro_rules | `(tactic| walk_at "call") => `(tactic| ((with_reducible apply i_scaled); all_goals (walk_at "pre")))

local macro_rules | `(tactic| walk_at "call") => `(tactic| ((with_reducible apply i_divided); all_goals (walk_at "pre")))

local macro_rules | `(tactic| walk_at "call") => `(tactic| ((with_reducible apply i_multiply); all_goals (walk_at "pre")))

local macro_rules | `(tactic| walk_at "call") => `(tactic| ((with_reducible apply i_determinant); all_goals (walk_at "pre")))

local macro_rules | `(tactic| walk_at "call") => `(tactic| ((with_reducible apply i_inverse); all_goals (walk_at "pre")))

local macro_rules | `(tactic| walk_at "call") => `(tactic| ((with_reducible apply i_floor_root); all_goals (walk_at "pre")))

local macro_rules | `(tactic| walk_at "call") => `(tactic| ((with_reducible apply i_is_square); all_goals (walk_at "pre")))

local macro_rules | `(tactic| walk_at "call") => `(tactic| ((with_reducible apply i_kind); all_goals (walk_at "pre")))

local macro_rules | `(tactic| walk_at "call") => `(tactic| ((with_reducible apply i_is_reduced_definite)))


local macro_rules | `(tactic| walk_at "call") => `(tactic| ((with_reducible apply i_measure); all_goals (walk_at "pre")))

local macro_rules | `(tactic| walk_at "call") => `(tactic| ((with_reducible apply i_content); all_goals (walk_at "pre")))


section
variable {P : Program} {w : World} {K : Fg} {mg : Str → Option Value} {base : Heap}

def Pre_reduce_definite (ds : List PyData) : Prop := ∃ (g : Mth.F3), ds = [dF g] ∧ Mth.dscF g < 0 ∧ -1300 ≤ Mth.dscF g ∧ BdF 40 g
def Post_reduce_definite (ds : List PyData) (d : PyData) : Prop := ∀ (g : Mth.F3), ds = [dF g] → ∃ (f : Mth.F3) (m : Mth.M4), d = .tuple [dF f, dM m] ∧ ((0 < g.a ∧ Mth.red f ∧ 0 < f.a) ∨ (g.a < 0 ∧ Mth.red (Mth.negF f) ∧ 0 < (Mth.negF f).a)) ∧ Mth.actF g m = f ∧ Mth.detM m = 1 ∧ BdM 10000 m

theorem sc_reduce_definite : FnScope ["form", "reduced", "m"] ["form"] (defScope (top 23)) := ⟨rfl, rfl, rfl, by decide +kernel, rfl, by decide +kernel, by decide +kernel⟩
theorem ok_reduce_definite (T : Md K mg) (D : DefAt K mg "reduce_definite" "reduce_definite" (top 23) ["form"]) (Gscaled : Ok P w K mg base 1 "scaled" ["form", "number"] (spD K R_scaled)) (Greduce_positive : Ok P w K mg base 3 "reduce_positive" ["form"] (spP K Pre_reduce_positive Post_reduce_positive)) : Ok P w K mg base 4 "reduce_definite" ["form"] (spP K Pre_reduce_definite Post_reduce_definite) := by
  refine ok_rel D sc_reduce_definite (fun ds h => by obtain ⟨g, rfl, _⟩ := h; rfl) fun f cdv A outer s H E hr => ?_
  refine ⟨_, (pss_cons (ps_if (pt_cmpR op_gt (pe_ix (ix_tupK (K := K) (by exact rfl)) (pv 0) pe_int (fun _ _ => rfl)) pe_int (nomark _)) (pss_one (ps_ret (pe_callO Greduce_positive (hr.mono (by decide)) (by rfl) (pa_cons (pv 0) pa_nil)))) pss_nil)
      (pss_cons (ps_asg (pe_callO Greduce_positive (hr.mono (by decide)) (by rfl) (pa_cons (pe_callO Gscaled (hr.mono (by decide)) (by rfl) (pa_cons (pv 0) (pa_cons (pe_un un_neg pe_int) pa_nil))) pa_nil)) (pg_tupK (K := K) 2 (by exact rfl) rfl (pgs_cons (pg_name (i := 1) sc_reduce_definite.nd rfl (Or.inl rfl)) (pgs_cons (pg_name (i := 2) sc_reduce_definite.nd rfl (Or.inl rfl)) pgs_nil)) (by rfl) (by rfl)))
      (pss_one (ps_ret (pe_tup (pa_cons (pe_callO Gscaled (hr.mono (by decide)) (by rfl) (pa_cons (pv 1) (pa_cons (pe_un un_neg pe_int) pa_nil))) (pa_cons (pv 2) pa_nil))))))), ?_⟩
  rintro _ ⟨g, rfl, h0, h1, h2⟩
  show SD K none _ [.d (dF g), .no, .no] none _ _ _ _
  have hne : g.a ≠ 0 := fun z => by
    unfold Mth.dscF at h0
    rw [z] at h0
    have : 0 ≤ g.b * g.b := by
      rcases Int.le_total 0 g.b with h | h
      · exact Int.mul_nonneg h h
      · exact Int.mul_nonneg_of_nonpos_of_nonpos h h
    omega
  refine s_seq (M := fun e o => e = [.d (dF g), .no, .no] ∧ o = none ∧ g.a < 0) (s_if (by walk_at "et") (fun hh => ?_) fun hh => ?_) ?_
  · have hp := of_decide_eq_true hh
    refine s_retR (er_callP' (by walk_at "ea") ⟨g, rfl, hp, h0, h1, h2⟩ fun d hd => ?_)
    obtain ⟨f, m, rfl, k1, k2, k3, k4, k5⟩ := hd g rfl
    intro g' hg
    have e := dF1 hg
    subst e
    exact ⟨f, m, rfl, .inl ⟨hp, k1, k2⟩, k3, k4, k5⟩
  · have hp := of_decide_eq_false hh
    exact s_next ⟨rfl, rfl, by omega⟩
  rintro _ _ ⟨rfl, rfl, hp⟩
  have hn : dF (Mth.negF g) = fm (g.a * -1) (g.b * -1) (g.c * -1) := by
    simp only [Mth.negF, Int.mul_neg, Int.mul_one]
  refine q_asgR (er_callP' (ds := [dF (Mth.negF g)]) (by rw [hn]; walk_at "ea") ⟨Mth.negF g, rfl, by simp only [Mth.negF]; omega, by rw [Mth.dsc_neg]; exact h0, by rw [Mth.dsc_neg]; exact h1, ⟨h2.a.neg, h2.b.neg, h2.c.neg⟩⟩ fun d hd => ?_)
  obtain ⟨f, m, rfl, k1, k2, k3, k4, k5⟩ := hd _ rfl
  refine ⟨_, by walk_at "tg", ?_⟩
  refine s_ret (by walk_at "ev") ?_
  intro g' hg
  have e := dF1 hg
  subst e
  refine ⟨Mth.negF f, m, ?_, .inr ⟨hp, by rw [Mth.neg_neg]; exact k1, by rw [Mth.neg_neg]; exact k2⟩, ?_, k4, k5⟩
  · simp only [Mth.negF, Int.mul_neg, Int.mul_one]
  · rw [← k3, Mth.act_neg, Mth.neg_neg]


def Pre_law_positive (ds : List PyData) : Prop := ∃ (tp : Bool) (g : Mth.F3), ds = [(if tp then dF g else .list [.int g.a, .int g.b, .int g.c])] ∧ 0 < g.a ∧ Mth.dscF g < 0 ∧ -1300 ≤ Mth.dscF g ∧ BdF 40 g
def Post_law_positive (ds : List PyData) (d : PyData) : Prop := ∀ (tp : Bool) (g : Mth.F3), ds = [(if tp then dF g else .list [.int g.a, .int g.b, .int g.c])] → ∃ (f : Mth.F3) (m : Mth.M4), d = dF f ∧ Mth.red f ∧ 0 < f.a ∧ Mth.actF g m = f ∧ Mth.detM m = 1

def dnM (f : Mth.F3) : Mth.M4 := ⟨1, -((f.b + f.a - 1).fdiv (2 * f.a)), 0, 1⟩
def LpI (g : Mth.F3) (k : Nat) (e : List Sl) (o : OS) : Prop := ∃ (f : Mth.F3) (m : Mth.M4) (x y t z : Sl), e = [x, .d (.int f.a), .d (.int f.b), .d (.int f.c), t, z] ∧ o = none ∧ Mth.actF g m = f ∧ Mth.detM m = 1 ∧ 0 < f.a ∧ BdF 40 f ∧
  (Mth.nu f.a.toNat + k ≤ 104 ∨ (k ≤ 105 ∧ 0 < f.b ∧ f.b < f.a ∧ f.a = f.c))
theorem sc_law_positive : FnScope ["_law_form_here", "_law_a", "_law_b", "_law_c", "_law_k", "_law_t"] ["_law_form_here"] (defScope (top 63)) := ⟨rfl, rfl, rfl, by decide +kernel, rfl, by decide +kernel, by decide +kernel⟩
theorem ok_law_positive (T : Md K mg) (D : DefAt K mg "_law_positive" "_law_positive" (top 63) ["_law_form_here"])  : Ok P w K mg base 1 "_law_positive" ["_law_form_here"] (spP K Pre_law_positive Post_law_positive) := by
  refine ok_rel D sc_law_positive (fun ds h => by obtain ⟨tp, g, rfl, _⟩ := h; rfl) fun f cdv A outer s H E hr => ?_
  refine ⟨_, (pss_cons (ps_asg (pv 0) (pg_anyK (K := K) 3 (by exact rfl) rfl (pgs_cons (pg_name (i := 1) sc_law_positive.nd rfl (Or.inl rfl)) (pgs_cons (pg_name (i := 2) sc_law_positive.nd rfl (Or.inl rfl)) (pgs_cons (pg_name (i := 3) sc_law_positive.nd rfl (Or.inl rfl)) pgs_nil))) (by rfl) (by rfl)))
      (pss_cons (ps_for PassesOwn.never rfl (pi_range1 (by rfl) T.range (pa_cons pe_int pa_nil)) (pg_name (i := 4) sc_law_positive.nd rfl (Or.inl rfl)) (pss_cons (ps_set (i := 5) sc_law_positive.nd rfl (Or.inl rfl) (pe_op op_fdX (pe_op op_sub (pe_op op_add (pv 2) (pv 1)) pe_int) (pe_op op_mulX pe_int (pv 1))))
      (pss_cons (ps_par (i := 2) (j := 3) (by rfl) sc_law_positive.nd rfl rfl (by decide) rfl rfl (pa_cons (pe_op op_sub (pv 2) (pe_op op_mulX (pe_op op_mulX pe_int (pv 1)) (pv 5))) (pa_cons (pe_op op_add (pe_op op_sub (pv 3) (pe_op op_mulX (pv 2) (pv 5))) (pe_op op_mulX (pe_op op_mulX (pv 1) (pv 5)) (pv 5))) pa_nil)) (by rfl))
      (pss_cons (ps_if (PW.pt (pw_or (pt_cmpR op_lt (pv 1) (pv 3) (nomark _)) (pw_or1 (PW.pt (pw_and (pt_cmpR (op_eqDK (K := K) (by exact rfl) hr.units) (pv 1) (pv 3) (nomark _)) (pw_and1 (pt_cmpR op_ge (pv 2) pe_int (nomark _)))))))) (pss_one (ps_ret (pe_tup (pa_cons (pv 1) (pa_cons (pv 2) (pa_cons (pv 3) pa_nil)))))) pss_nil)
      (pss_one (ps_par3 (i := 1) (j := 2) (l := 3) (by rfl) sc_law_positive.nd rfl rfl rfl (by decide) (by decide) (by decide) rfl rfl rfl (pa_cons (pv 3) (pa_cons (pe_un un_neg (pv 2)) (pa_cons (pv 1) pa_nil))) (by rfl)))))))
      (pss_one (ps_ret (pe_tup (pa_cons (pv 1) (pa_cons (pv 2) (pa_cons (pv 3) pa_nil)))))))), ?_⟩
  rintro _ ⟨tp, g, rfl, h0, h1, h2, h3⟩
  show SD K none _ [.d ((if tp then dF g else .list [.int g.a, .int g.b, .int g.c])), .no, .no, .no, .no, .no] none _ _ _ _
  have ht : TgD K (gAny K 3 (gCons (gName 1) (gCons (gName 2) (gCons (gName 3) gNil)))) (if tp then dF g else .list [.int g.a, .int g.b, .int g.c]) [.d (if tp then dF g else .list [.int g.a, .int g.b, .int g.c]), .no, .no, .no, .no, .no] [.d (if tp then dF g else .list [.int g.a, .int g.b, .int g.c]), .d (.int g.a), .d (.int g.b), .d (.int g.c), .no, .no] := by
    cases tp
    · exact tg_anyL (tg_cons tg_name (tg_cons tg_name (tg_cons tg_name tg_nil))) rfl
    · exact tg_anyT (tg_cons tg_name (tg_cons tg_name (tg_cons tg_name tg_nil))) rfl
  refine q_asgG (by walk_at "ev") ht ?_
  have post : ∀ (f : Mth.F3) (m : Mth.M4), Mth.red f → 0 < f.a → Mth.actF g m = f → Mth.detM m = 1 → Post_law_positive [if tp then dF g else .list [.int g.a, .int g.b, .int g.c]] (dF f) := by
    intro f m r p e1 e2 tp' g' hg
    have e3 : g = g' := by
      have e4 := (List.cons.inj hg).1
      cases tp <;> cases tp' <;> simp at e4
      · exact Mth.F3.ext e4.1 e4.2.1 e4.2.2
      · exact Mth.F3.ext e4.1 e4.2.1 e4.2.2
    subst e3
    exact ⟨f, m, rfl, r, p, e1, e2⟩
  have hnu : Mth.nu g.a.toNat ≤ 104 := Mth.nu_le (by have : g.a.natAbs < 2 ^ 40 := h3.a; omega)
  refine s_seq (M := fun e o => LpI g 400 e o) (s_forR (LpI g) ((by walk_at "ea" : EvA K _ _ none [.int 400]).toR ⟨400, rfl, by decide, by decide, ⟨g, Mth.one, _, .no, _, _, rfl, rfl, Mth.act_one g, rfl, h0, h3, .inl (by omega)⟩, ?_, fun e o h => h⟩)) ?_
  · rintro i _ _ hi ⟨f, m, x, y, t, z, rfl, rfl, e1, e2, p0, p1, p2⟩
    have hd : Mth.dscF f = Mth.dscF g := by rw [← e1]; exact Mth.dsc_act1 e2
    have b1 : Bd 40 f.a := p1.a
    have b2 : Bd 40 f.b := p1.b
    have b4 : Bd 40 f.c := p1.c
    have b3 : 2 * f.a ≠ 0 := by omega
    have b5 : Bd 43 ((f.b + f.a - 1).fdiv (2 * f.a)) := by
      have h1 := (Mth.fdiv_spec (f.b + f.a - 1) (2 * f.a) b3).2.2
      have h2 : f.a.natAbs < 2 ^ 40 := b1
      have h3 : f.b.natAbs < 2 ^ 40 := b2
      refine Bd.of (Nat.lt_of_le_of_lt h1 ?_)
      omega
    -- the shifted form
    have a1 : Mth.actF f (dnM f) = ⟨f.a, f.b - 2 * f.a * (f.b + f.a - 1).fdiv (2 * f.a), f.c - f.b * (f.b + f.a - 1).fdiv (2 * f.a) + f.a * (f.b + f.a - 1).fdiv (2 * f.a) * (f.b + f.a - 1).fdiv (2 * f.a)⟩ := by
      unfold dnM
      rw [Mth.act_shift]
      ext <;> dsimp only <;> grind
    have d1 : Mth.detM (dnM f) = 1 := by simp [dnM, Mth.detM]
    obtain ⟨s1, s2⟩ := Mth.shift_dn (b := f.b) p0
    have hd2 := Mth.dsc_act1 (f := f) d1
    have a2 : Mth.actF g (Mth.mulM m (dnM f)) = Mth.actF f (dnM f) := by rw [← Mth.act_mul, e1]
    have d2 : Mth.detM (Mth.mulM m (dnM f)) = 1 := by rw [Mth.det_mul, e2, d1]; rfl
    have keep : 0 < f.b → f.b < f.a → (f.b + f.a - 1).fdiv (2 * f.a) = 0 := fun k1 k2 => by
      rw [Int.fdiv_eq_ediv_of_nonneg _ (by omega)]
      exact Int.ediv_eq_zero_of_lt (by omega) (by omega)
    refine q_asg (by walk_at "ev") ?_
    refine q_par (by walk_at "ea") ?_
    generalize ht : (f.b + f.a - 1).fdiv (2 * f.a) = t at *
    rw [a1] at a2 hd2
    generalize hb' : f.b - 2 * f.a * t = b' at *
    generalize hc' : f.c - f.b * t + f.a * t * t = c' at *
    have n := Mth.norm_c (f := ⟨f.a, b', c'⟩) p0 (by dsimp only; omega) s2 (by rw [hd2, hd]; exact h1) (by rw [hd2, hd]; exact h2)
    obtain ⟨n1, n2, n3⟩ := n
    dsimp only at n1 n2 n3
    have h2 : f.a.natAbs < 2 ^ 40 := b1
    refine s_seq (M := fun e o => e = [x, .d (.int f.a), .d (.int b'), .d (.int c'), .d (.int i), .d (.int t)] ∧ o = none ∧ ¬ (f.a < c' ∨ (f.a = c' ∧ 0 ≤ b'))) (s_if (b := decide (f.a < c') || (decide (f.a = c') && decide (0 ≤ b'))) (by walk_at "et") (fun hb => ?_) fun hb => ?_) ?_
    · have hc : f.a < c' ∨ (f.a = c' ∧ 0 ≤ b') := by simpa using hb
      refine s_ret (d := dF ⟨f.a, b', c'⟩) (by walk_at "ev") (post ⟨f.a, b', c'⟩ (Mth.mulM m (dnM f)) ?_ p0 a2 d2)
      unfold Mth.red
      dsimp only
      omega
    · refine s_next ⟨rfl, rfl, ?_⟩
      simp at hb
      omega
    rintro _ _ ⟨rfl, rfl, hn⟩
    refine s_par3 (by walk_at "ea") ?_
    refine ⟨⟨c', -b', f.a⟩, Mth.mulM (Mth.mulM m (dnM f)) ⟨0, -1, 1, 0⟩, _, .no, _, _, rfl, rfl, ?_, ?_, n1, ⟨Bd.of (by dsimp only; omega), Bd.of (by dsimp only; omega), b1⟩, ?_⟩
    · rw [← Mth.act_mul, a2, Mth.act_flip]
    · rw [Mth.det_mul, d2]
      rfl
    · dsimp only
      rcases p2 with p2 | ⟨q1, q2, q3, q4⟩
      · by_cases hlt : c' < f.a
        · have := Mth.nu_lt (a := f.a.toNat) (c := c'.toNat) (by omega) (by omega) (fun _ => by omega)
          exact .inl (by omega)
        · exact .inr ⟨by omega, by omega, by omega, by omega⟩
      · exfalso
        have ht0 := keep q2 q3
        rw [ht0] at hb' hc'
        omega
  rintro _ _ ⟨f, m, x, y, t, z, rfl, rfl, _, _, _, _, p2⟩
  exfalso
  rcases p2 with p2 | p2 <;> omega


end
end Kx

-- K5
set_option maxHeartbeats 2000000
namespace Kx
open PySem PySem.Spec PyProof.Rows L2
local macro_rules | `(tactic| walk_at "bd") => `(tactic| first | assumption | exact Bd.lit (by decide) | ((with_reducible apply Bd.mul) <;> walk_at "bd") | ((with_reducible apply Bd.add) <;> walk_at "bd") | ((with_reducible apply Bd.sub) <;> walk_at "bd") | ((with_reducible apply Bd.neg); walk_at "bd"))
local macro_rules | `(tactic| walk_at "mul") => `(tactic| first | assumption | exact mulok_l (Bd.mono (by walk_at "bd") (by omega)) | exact mulok_r (Bd.mono (by walk_at "bd") (by omega)) | ((with_reducible apply mulok); (focus walk_at "bd"); (focus walk_at "bd"); omega))
local macro_rules | `(tactic| walk_at "cond") => `(tactic| first | assumption | walk_at "mul" | exact cfd (by first | assumption | omega) (by walk_at "bd") (by omega) | omega | decide)
local macro_rules | `(tactic| walk_at "rv") => `(tactic| first | with_reducible exact rv_I0 | with_reducible exact rv_B0 | with_reducible exact rv_eqI | with_reducible exact rv_neI | with_reducible exact rv_eqF | with_reducible exact rv_neF | with_reducible exact rv_eqS | ((with_reducible apply rv_I); walk_at "cond") | ((with_reducible apply rv_ixT); exact rfl) | ((with_reducible apply rv_ixL); exact rfl) | with_reducible exact rv_isN | with_reducible exact rv_notN | exact rv_cat (Nat.le_of_ble_eq_true rfl))
local macro_rules | `(tactic| walk_at "ev") => `(tactic| first
  | ((with_reducible apply ev_var); exact rfl) | with_reducible exact ev_int | with_reducible exact ev_bl | with_reducible exact ev_str | with_reducible exact ev_non | exact ev_quad (by assumption)
  | ((with_reducible apply ev_op); (focus walk_at "ev"); (focus walk_at "ev"); (focus walk_at "rv"))
  | ((with_reducible apply ev_un); (focus walk_at "ev"); with_reducible exact ru_I)
  | ((with_reducible apply ev_tup); (focus walk_at "ea"); exact Nat.le_of_ble_eq_true rfl)
  | ((with_reducible apply ev_lst); (focus walk_at "ea"); exact Nat.le_of_ble_eq_true rfl)
  | ((with_reducible apply ev_call); (focus walk_at "ea"); (focus walk_at "call"))
  | ((with_reducible apply ev_cb); (focus walk_at "ea"); (focus walk_at "rc"))
  | ((with_reducible apply ev_andV); (focus walk_at "ev"); (intro hh_; (focus walk_at "ev")))
  | ((with_reducible apply ev_orV); (focus walk_at "ev"); (intro hh_; (focus walk_at "ev")))
  | ((with_reducible apply ev_chain); (focus walk_at "ev"); (focus walk_at "ev"); (focus walk_at "rv"); (intro hh_; (focus walk_at "ev")); (intro hh_; (focus walk_at "rv")))
  | ((with_reducible apply ev_notV); walk_at "ev")
  | ((with_reducible apply ev_cut2); walk_at "ev"))
local macro_rules | `(tactic| walk_at "ea") => `(tactic| first | with_reducible exact ea_nil | ((with_reducible apply ea_cons); (focus walk_at "ev"); (focus walk_at "ea")))
local macro_rules | `(tactic| walk_at "rc") => `(tactic| first | with_reducible exact rc_abs | with_reducible exact rc_intI | with_reducible exact rc_intB | with_reducible exact rc_lenL | with_reducible exact rc_tupOf | exact rc_isq (by assumption) (by assumption) | exact rc_isq (by omega) (by omega))
local macro_rules | `(tactic| walk_at "et") => `(tactic| first
  | ((with_reducible apply et_test); walk_at "ev")
  | ((with_reducible apply et_B); walk_at "ev")
  | ((with_reducible apply et_and); (focus walk_at "et"); (intro hh_; (focus walk_at "et")))
  | ((with_reducible apply et_or); (focus walk_at "et"); (intro hh_; (focus walk_at "et")))
  | ((with_reducible apply et_not); walk_at "et"))
local macro_rules | `(tactic| walk_at "tg") => `(tactic| first | with_reducible exact tg_name | ((with_reducible apply tg_tup); (focus walk_at "tgs"); exact rfl) | ((with_reducible apply tg_unl); (focus walk_at "tgs"); exact rfl))
local macro_rules | `(tactic| walk_at "tgs") => `(tactic| first | with_reducible exact tg_nil | ((with_reducible apply tg_cons); (focus walk_at "tg"); (focus walk_at "tgs")))
local macro_rules | `(tactic| walk_at "pre") => `(tactic| first | assumption | walk_at "bd" | exact Bd.mono (by walk_at "bd") (by omega) | omega | decide)

local macro_rules | `(tactic| walk_at "call") => `(tactic| ((with_reducible apply i_worth); all_goals (walk_at "pre")))

local macro_rules | `(tactic| walk_at "call") => `(tactic| ((with_reducible apply i_act); all_goals (walk_at "pre")))

local macro_rules | `(tactic| walk_at "call") => `(tactic| ((with_reducible apply i_discriminant); all_goals (walk_at "pre")))

local macro_rules | `(tactic| walk_at "call") => `(tactic| ((with_reducible apply i_scaled); all_goals (walk_at "pre")))

local macro_rules | `(tactic| walk_at "call") => `(tactic| ((with_reducible apply i_divided); all_goals (walk_at "pre")))

local macro_rules | `(tactic| walk_at "call") => `(tactic| ((with_reducible apply i_multiply); all_goals (walk_at "pre")))

local macro_rules | `(tactic| walk_at "call") => `(tactic| ((with_reducible apply i_determinant); all_goals (walk_at "pre")))

local macro_rules | `(tactic| walk_at "call") => `(tactic| ((with_reducible apply i_inverse); all_goals (walk_at "pre")))

local macro_rules | `(tactic| walk_at "call") => `(tactic| ((with_reducible apply i_floor_root); all_goals (walk_at "pre")))

local macro_rules | `(tactic| walk_at "call") => `(tactic| ((with_reducible apply i_is_square); all_goals (walk_at "pre")))

local macro_rules | `(tactic| walk_at "call") => `(tactic| ((with_reducible apply i_kind); all_goals (walk_at "pre")))

local macro_rules | `(tactic| walk_at "call") => `(tactic| ((with_reducible apply i_is_reduced_definite)))


local macro_rules | `(tactic| walk_at "call") => `(tactic| ((with_reducible apply i_measure); all_goals (walk_at "pre")))

local macro_rules | `(tactic| walk_at "call") => `(tactic| ((with_reducible apply i_content); all_goals (walk_at "pre")))

theorem rt_of {D : Int} (h0 : 0 < D) (h1 : isSqB D = false) (h2 : D ≤ 1300) : Mth.Rt (isq D) D := by
  obtain ⟨k1, k2, k3⟩ := isq_spec D (by omega)
  have k4 : isq D * isq D ≠ D := fun e => by
    unfold isSqB at h1
    rw [decide_eq_true e, decide_eq_true (show 0 ≤ D by omega)] at h1
    cases h1
  refine ⟨by omega, k3, ?_, ?_⟩
  · rcases Int.lt_or_le 0 (isq D) with h | h
    · exact h
    · have : isq D = 0 := by omega
      rw [this] at k3
      omega
  · rcases Int.lt_or_le (isq D) 37 with h | h
    · omega
    · have := Int.mul_le_mul h h (by decide) (by omega)
      omega
abbrev sI (g : Mth.F3) : Int := isq (Mth.dscF g)
abbrev RtF (g : Mth.F3) : Prop := Mth.Rt (sI g) (Mth.dscF g)
theorem i_discF {g : Mth.F3} (h : BdF 40 g) : R_discriminant [dF g] (.int (Mth.dscF g)) := i_discriminant (h.b.mono (by decide)) (h.c.mono (by decide))
local macro_rules | `(tactic| walk_at "call") => `(tactic| ((with_reducible apply i_discF); assumption))
theorem rt_range {s D : Int} (r : Mth.Rt s D) : 0 ≤ D ∧ D < 2 ^ 64 ∧ D ≤ 1400 := by
  have h1 := Mth.sq_nn s
  have h2 := r.lo
  have h3 := r.hi
  have h4 := Mth.sq_le (a := 37) (b := s + 1) (by have := r.s0; omega) (by have := r.s36; omega)
  omega

section
variable {P : Program} {w : World} {K : Fg} {mg : Str → Option Value} {base : Heap}

def R_is_reduced_indefinite (ds : List PyData) (d : PyData) : Prop := ∃ (g : Mth.F3), ds = [dF g] ∧ Mth.Rt (isq (Mth.dscF g)) (Mth.dscF g) ∧ BdF 40 g ∧ d = .bool (decide (Mth.redI (isq (Mth.dscF g)) g))
theorem i_is_reduced_indefinite {g : Mth.F3} (hp0 : Mth.Rt (isq (Mth.dscF g)) (Mth.dscF g)) (hp1 : BdF 40 g) : R_is_reduced_indefinite [dF g] (.bool (decide (Mth.redI (isq (Mth.dscF g)) g))) := ⟨_, rfl, hp0, hp1, rfl⟩

theorem sc_is_reduced_indefinite : FnScope ["form", "a", "b", "_", "root"] ["form"] (defScope (top 25)) := ⟨rfl, rfl, rfl, by decide +kernel, rfl, by decide +kernel, by decide +kernel⟩
theorem ok_is_reduced_indefinite (T : Md K mg) (D : DefAt K mg "is_reduced_indefinite" "is_reduced" (top 25) ["form"]) (Gfloor_root : Ok P w K mg base 1 "floor_root" ["n"] (spD K R_floor_root)) (Gdiscriminant : Ok P w K mg base 1 "discriminant" ["form"] (spD K R_discriminant)) : Ok P w K mg base 2 "is_reduced_indefinite" ["form"] (spD K R_is_reduced_indefinite) := by
  refine ok_pure D sc_is_reduced_indefinite (fun ds d h => by obtain ⟨g, rfl, _⟩ := h; rfl) fun f cdv A outer s H E hr => ?_
  refine ⟨_, (pss_cons (ps_asg (pv 0) (pg_tupK (K := K) 3 (by exact rfl) rfl (pgs_cons (pg_name (i := 1) sc_is_reduced_indefinite.nd rfl (Or.inl rfl)) (pgs_cons (pg_name (i := 2) sc_is_reduced_indefinite.nd rfl (Or.inl rfl)) (pgs_cons (pg_name (i := 3) sc_is_reduced_indefinite.nd rfl (Or.inl rfl)) pgs_nil))) (by rfl) (by rfl)))
      (pss_cons (ps_set (i := 4) sc_is_reduced_indefinite.nd rfl (Or.inl rfl) (pe_callO Gfloor_root (hr.mono (by decide)) (by rfl) (pa_cons (pe_callO Gdiscriminant (hr.mono (by decide)) (by rfl) (pa_cons (pv 0) pa_nil)) pa_nil)))
      (pss_one (ps_ret (pe_and (pe_chain op_lt op_le pe_int (pv 2) (pv 4)) (pe_one (pe_chain op_lt op_le (pe_op op_sub (pv 4) (pv 2)) (pe_op op_mulX pe_int (pe_callB call_abs (by rfl) T.abs (by decide +kernel) (pa_cons (pv 1) pa_nil))) (pe_op op_add (pv 4) (pv 2))))))))), ?_⟩
  rintro _ _ ⟨g, rfl, h0, h1, rfl⟩
  show SD K none _ [.d (dF g), .no, .no, .no, .no] none _ _ _ _
  obtain ⟨k1, k2, _⟩ := rt_range h0
  have b1 : Bd 40 g.a := h1.a
  have b2 : Bd 40 g.b := h1.b
  have b3 : Bd 40 g.c := h1.c
  refine q_asgG (by walk_at "ev") (by walk_at "tg") ?_
  refine q_asg (d := .int (isq (Mth.dscF g))) (ev_call (ds := [.int (Mth.dscF g)]) (by walk_at "ea") (i_floor_root k1 k2)) ?_
  refine s_ret (d := .bool ((decide (0 < g.b) && decide (g.b ≤ isq (Mth.dscF g))) && (decide (isq (Mth.dscF g) - g.b < 2 * (g.a.natAbs : Int)) && decide (2 * (g.a.natAbs : Int) ≤ isq (Mth.dscF g) + g.b)))) (by walk_at "ev") ?_
  congr 1
  rw [Bool.eq_iff_iff]
  simp only [Bool.and_eq_true, decide_eq_true_eq]
  unfold Mth.redI
  constructor
  · rintro ⟨⟨a1, a2⟩, a3, a4⟩
    exact ⟨a1, a2, a3, a4⟩
  · rintro ⟨a1, a2, a3, a4⟩
    exact ⟨⟨a1, a2⟩, a3, a4⟩

local macro_rules | `(tactic| walk_at "call") => `(tactic| ((with_reducible apply i_is_reduced_indefinite); all_goals (walk_at "pre")))

def R_step_of (ds : List PyData) (d : PyData) : Prop := ∃ (g : Mth.F3), ds = [dF g] ∧ Mth.Rt (isq (Mth.dscF g)) (Mth.dscF g) ∧ BdF 40 g ∧ d = dM ⟨0, -1, 1, Mth.nI (isq (Mth.dscF g)) g⟩
theorem i_step_of {g : Mth.F3} (hp0 : Mth.Rt (isq (Mth.dscF g)) (Mth.dscF g)) (hp1 : BdF 40 g) : R_step_of [dF g] (dM ⟨0, -1, 1, Mth.nI (isq (Mth.dscF g)) g⟩) := ⟨_, rfl, hp0, hp1, rfl⟩

theorem sc_step_of : FnScope ["form", "_", "b", "c", "root", "top", "middle"] ["form"] (defScope (top 27)) := ⟨rfl, rfl, rfl, by decide +kernel, rfl, by decide +kernel, by decide +kernel⟩
theorem ok_step_of (T : Md K mg) (D : DefAt K mg "step_of" "step_of" (top 27) ["form"]) (Gfloor_root : Ok P w K mg base 1 "floor_root" ["n"] (spD K R_floor_root)) (Gdiscriminant : Ok P w K mg base 1 "discriminant" ["form"] (spD K R_discriminant)) : Ok P w K mg base 2 "step_of" ["form"] (spD K R_step_of) := by
  refine ok_pure D sc_step_of (fun ds d h => by obtain ⟨g, rfl, _⟩ := h; rfl) fun f cdv A outer s H E hr => ?_
  refine ⟨_, (pss_cons (ps_asg (pv 0) (pg_tupK (K := K) 3 (by exact rfl) rfl (pgs_cons (pg_name (i := 1) sc_step_of.nd rfl (Or.inl rfl)) (pgs_cons (pg_name (i := 2) sc_step_of.nd rfl (Or.inl rfl)) (pgs_cons (pg_name (i := 3) sc_step_of.nd rfl (Or.inl rfl)) pgs_nil))) (by rfl) (by rfl)))
      (pss_cons (ps_set (i := 4) sc_step_of.nd rfl (Or.inl rfl) (pe_callO Gfloor_root (hr.mono (by decide)) (by rfl) (pa_cons (pe_callO Gdiscriminant (hr.mono (by decide)) (by rfl) (pa_cons (pv 0) pa_nil)) pa_nil)))
      (pss_cons (ps_if (pt_cmpR op_gt (pe_callB call_abs (by rfl) T.abs (by decide +kernel) (pa_cons (pv 3) pa_nil)) (pv 4) (nomark _)) (pss_one (ps_set (i := 5) sc_step_of.nd rfl (Or.inl rfl) (pe_callB call_abs (by rfl) T.abs (by decide +kernel) (pa_cons (pv 3) pa_nil)))) (pss_one (ps_set (i := 5) sc_step_of.nd rfl (Or.inl rfl) (pv 4))))
      (pss_cons (ps_set (i := 6) sc_step_of.nd rfl (Or.inl rfl) (pe_op op_sub (pv 5) (pe_op op_modN (pe_op op_add (pv 5) (pv 2)) (pe_op op_mulX pe_int (pe_callB call_abs (by rfl) T.abs (by decide +kernel) (pa_cons (pv 3) pa_nil))))))
      (pss_one (ps_ret (pe_tup (pa_cons pe_int (pa_cons (pe_un un_neg pe_int) (pa_cons pe_int (pa_cons (pe_op op_fdX (pe_op op_add (pv 2) (pv 6)) (pe_op op_mulX pe_int (pv 3))) pa_nil))))))))))), ?_⟩
  rintro _ _ ⟨g, rfl, h0, h1, rfl⟩
  show SD K none _ [.d (dF g), .no, .no, .no, .no, .no, .no] none _ _ _ _
  obtain ⟨k1, k2, _⟩ := rt_range h0
  have b1 : Bd 40 g.a := h1.a
  have b2 : Bd 40 g.b := h1.b
  have b3 : Bd 40 g.c := h1.c
  have hc := h0.c0
  refine q_asgG (by walk_at "ev") (by walk_at "tg") ?_
  refine q_asg (d := .int (isq (Mth.dscF g))) (ev_call (ds := [.int (Mth.dscF g)]) (by walk_at "ea") (i_floor_root k1 k2)) ?_
  refine s_seq (M := fun e o => e = [.d (dF g), .d (.int g.a), .d (.int g.b), .d (.int g.c), .d (.int (isq (Mth.dscF g))), .d (.int (Mth.topI (isq (Mth.dscF g)) g)), .no] ∧ o = none) (s_if (b := decide (isq (Mth.dscF g) < (g.c.natAbs : Int))) (by walk_at "et") (fun hh => ?_) fun hh => ?_) ?_
  · have hp := of_decide_eq_true hh
    refine s_asg (d := .int (g.c.natAbs : Int)) (by walk_at "ev") ⟨?_, rfl⟩
    unfold Mth.topI
    rw [if_pos hp]
    rfl
  · have hp := of_decide_eq_false hh
    refine s_asg (d := .int (isq (Mth.dscF g))) (by walk_at "ev") ⟨?_, rfl⟩
    unfold Mth.topI
    rw [if_neg hp]
    rfl
  rintro _ _ ⟨rfl, rfl⟩
  have z1 : 2 * (g.c.natAbs : Int) ≠ 0 := by omega
  have z2 : 2 * g.c ≠ 0 := by omega
  have b4 : Bd 40 (g.c.natAbs : Int) := by
    have h : g.c.natAbs < 2 ^ 40 := b3
    exact Bd.of (by omega)
  refine q_asg (d := .int (Mth.topI (isq (Mth.dscF g)) g - (Mth.topI (isq (Mth.dscF g)) g + g.b).fmod (2 * (g.c.natAbs : Int)))) (by walk_at "ev") ?_
  refine s_ret (d := dM ⟨0, -1, 1, Mth.nI (isq (Mth.dscF g)) g⟩) ?_ rfl
  unfold Mth.nI Mth.midI
  walk_at "ev"

local macro_rules | `(tactic| walk_at "call") => `(tactic| ((with_reducible apply i_step_of); all_goals (walk_at "pre")))

end
end Kx

-- K6
set_option maxHeartbeats 2000000
namespace Kx
open PySem PySem.Spec PyProof.Rows L2
local macro_rules | `(tactic| walk_at "bd") => `(tactic| first | assumption | exact Bd.lit (by decide) | ((with_reducible apply Bd.mul) <;> walk_at "bd") | ((with_reducible apply Bd.add) <;> walk_at "bd") | ((with_reducible apply Bd.sub) <;> walk_at "bd") | ((with_reducible apply Bd.neg); walk_at "bd"))
local macro_rules | `(tactic| walk_at "mul") => `(tactic| first | assumption | exact mulok_l (Bd.mono (by walk_at "bd") (by omega)) | exact mulok_r (Bd.mono (by walk_at "bd") (by omega)) | ((with_reducible apply mulok); (focus walk_at "bd"); (focus walk_at "bd"); omega))
local macro_rules | `(tactic| walk_at "cond") => `(tactic| first | assumption | walk_at "mul" | exact cfd (by first | assumption | omega) (by walk_at "bd") (by omega) | omega | decide)
local macro_rules | `(tactic| walk_at "rv") => `(tactic| first | with_reducible exact rv_I0 | with_reducible exact rv_B0 | with_reducible exact rv_eqI | with_reducible exact rv_neI | with_reducible exact rv_eqF | with_reducible exact rv_neF | with_reducible exact rv_eqS | ((with_reducible apply rv_I); walk_at "cond") | ((with_reducible apply rv_ixT); exact rfl) | ((with_reducible apply rv_ixL); exact rfl) | with_reducible exact rv_isN | with_reducible exact rv_notN | exact rv_cat (Nat.le_of_ble_eq_true rfl))
local macro_rules | `(tactic| walk_at "ev") => `(tactic| first
  | ((with_reducible apply ev_var); exact rfl) | with_reducible exact ev_int | with_reducible exact ev_bl | with_reducible exact ev_str | with_reducible exact ev_non | exact ev_quad (by assumption)
  | ((with_reducible apply ev_op); (focus walk_at "ev"); (focus walk_at "ev"); (focus walk_at "rv"))
  | ((with_reducible apply ev_un); (focus walk_at "ev"); with_reducible exact ru_I)
  | ((with_reducible apply ev_tup); (focus walk_at "ea"); exact Nat.le_of_ble_eq_true rfl)
  | ((with_reducible apply ev_lst); (focus walk_at "ea"); exact Nat.le_of_ble_eq_true rfl)
  | ((with_reducible apply ev_call); (focus walk_at "ea"); (focus walk_at "call"))
  | ((with_reducible apply ev_cb); (focus walk_at "ea"); (focus walk_at "rc"))
  | ((with_reducible apply ev_andV); (focus walk_at "ev"); (intro hh_; (focus walk_at "ev")))
  | ((with_reducible apply ev_orV); (focus walk_at "ev"); (intro hh_; (focus walk_at "ev")))
  | ((with_reducible apply ev_chain); (focus walk_at "ev"); (focus walk_at "ev"); (focus walk_at "rv"); (intro hh_; (focus walk_at "ev")); (intro hh_; (focus walk_at "rv")))
  | ((with_reducible apply ev_notV); walk_at "ev")
  | ((with_reducible apply ev_cut2); walk_at "ev"))
local macro_rules | `(tactic| walk_at "ea") => `(tactic| first | with_reducible exact ea_nil | ((with_reducible apply ea_cons); (focus walk_at "ev"); (focus walk_at "ea")))
local macro_rules | `(tactic| walk_at "rc") => `(tactic| first | with_reducible exact rc_abs | with_reducible exact rc_intI | with_reducible exact rc_intB | with_reducible exact rc_lenL | with_reducible exact rc_tupOf | exact rc_isq (by assumption) (by assumption) | exact rc_isq (by omega) (by omega))
local macro_rules | `(tactic| walk_at "et") => `(tactic| first
  | ((with_reducible apply et_test); walk_at "ev")
  | ((with_reducible apply et_B); walk_at "ev")
  | ((with_reducible apply et_and); (focus walk_at "et"); (intro hh_; (focus walk_at "et")))
  | ((with_reducible apply et_or); (focus walk_at "et"); (intro hh_; (focus walk_at "et")))
  | ((with_reducible apply et_not); walk_at "et"))
local macro_rules | `(tactic| walk_at "tg") => `(tactic| first | with_reducible exact tg_name | ((with_reducible apply tg_tup); (focus walk_at "tgs"); exact rfl) | ((with_reducible apply tg_unl); (focus walk_at "tgs"); exact rfl))
local macro_rules | `(tactic| walk_at "tgs") => `(tactic| first | with_reducible exact tg_nil | ((with_reducible apply tg_cons); (focus walk_at "tg"); (focus walk_at "tgs")))
local macro_rules | `(tactic| walk_at "pre") => `(tactic| first | assumption | walk_at "bd" | exact Bd.mono (by walk_at "bd") (by omega) | omega | decide)

local macro_rules | `(tactic| walk_at "call") => `(tactic| ((with_reducible apply i_worth); all_goals (walk_at "pre")))

local macro_rules | `(tactic| walk_at "call") => `(tactic| ((with_reducible apply i_act); all_goals (walk_at "pre")))

local macro_rules | `(tactic| walk_at "call") => `(tactic| ((with_reducible apply i_discriminant); all_goals (walk_at "pre")))

local macro_rules | `(tactic| walk_at "call") => `(tactic| ((with_reducible apply i_scaled); all_goals (walk_at "pre")))

local macro_rules | `(tactic| walk_at "call") => `(tactic| ((with_reducible apply i_divided); all_goals (walk_at "pre")))

local macro_rules | `(tactic| walk_at "call") => `(tactic| ((with_reducible apply i_multiply); all_goals (walk_at "pre")))

local macro_rules | `(tactic| walk_at "call") => `(tactic| ((with_reducible apply i_determinant); all_goals (walk_at "pre")))

local macro_rules | `(tactic| walk_at "call") => `(tactic| ((with_reducible apply i_inverse); all_goals (walk_at "pre")))

local macro_rules | `(tactic| walk_at "call") => `(tactic| ((with_reducible apply i_floor_root); all_goals (walk_at "pre")))

local macro_rules | `(tactic| walk_at "call") => `(tactic| ((with_reducible apply i_is_square); all_goals (walk_at "pre")))

local macro_rules | `(tactic| walk_at "call") => `(tactic| ((with_reducible apply i_kind); all_goals (walk_at "pre")))

local macro_rules | `(tactic| walk_at "call") => `(tactic| ((with_reducible apply i_is_reduced_definite)))


local macro_rules | `(tactic| walk_at "call") => `(tactic| ((with_reducible apply i_measure); all_goals (walk_at "pre")))

local macro_rules | `(tactic| walk_at "call") => `(tactic| ((with_reducible apply i_content); all_goals (walk_at "pre")))

local macro_rules | `(tactic| walk_at "call") => `(tactic| ((with_reducible apply i_is_reduced_indefinite); all_goals (walk_at "pre")))

local macro_rules | `(tactic| walk_at "call") => `(tactic| ((with_reducible apply i_step_of); all_goals (walk_at "pre")))

local macro_rules | `(tactic| walk_at "call") => `(tactic| ((with_reducible apply i_discF); assumption))
theorem st_bdF {g : Mth.F3} {s : Int} (r : Mth.Rt s (Mth.dscF g)) (h : BdF 40 g) : BdF 40 (Mth.stI s g) ∧ BdM 42 ⟨0, -1, 1, Mth.nI s g⟩ := by
  have hc := r.c0
  obtain ⟨e1, e2, _⟩ := Mth.st_spec (s := s) hc
  have h1 : g.a.natAbs < 2 ^ 40 := h.a
  have h2 : g.b.natAbs < 2 ^ 40 := h.b
  have h3 : g.c.natAbs < 2 ^ 40 := h.c
  have s36 := r.s36
  have s0 := r.s0
  have m : (Mth.midI s g).natAbs < 2 ^ 40 ∧ (Mth.stI s g).c.natAbs < 2 ^ 40 := by
    by_cases k : s < g.c.natAbs
    · have := Mth.st_big r k
      omega
    · have := Mth.st_small r (show (g.c.natAbs : Int) ≤ s by omega)
      omega
  refine ⟨⟨?_, ?_, Bd.of m.2⟩, show Bd 42 0 from Bd.of (by decide), show Bd 42 (-1) from Bd.of (by decide), show Bd 42 1 from Bd.of (by decide), ?_⟩
  · rw [e1]
    exact h.c
  · rw [e2]
    exact Bd.of m.1
  · have := (Mth.fdiv_spec (g.b + Mth.midI s g) (2 * g.c) (by omega)).2.2
    refine Bd.of (Nat.lt_of_le_of_lt this ?_)
    omega
theorem it_bdF {g : Mth.F3} {s : Int} (r : Mth.Rt s (Mth.dscF g)) (h : BdF 40 g) : ∀ k, BdF 40 (Mth.itI s g k)
  | 0 => h
  | k + 1 => (st_bdF (Mth.it_rt r k) (it_bdF r h k)).1
def RiI (g : Mth.F3) (k : Nat) (e : List Sl) (o : OS) : Prop := ∃ (j : Nat) (m : Mth.M4) (n : Nat) (x : Sl), e = [.d (dF (Mth.itI (sI g) g j)), .d (dM m), x] ∧ o = none ∧ k = Mth.muI (sI g) (Mth.itI (sI g) g j) ∧ (∀ i, i < j → ¬ Mth.redI (sI g) (Mth.itI (sI g) g i)) ∧
  Mth.actF g m = Mth.itI (sI g) g j ∧ Mth.detM m = 1 ∧ BdM n m ∧ n + 45 * Mth.muI (sI g) (Mth.itI (sI g) g j) ≤ 1990
/-- the matrices of a ring -/
def msI (s : Int) (g : Mth.F3) : Nat → Mth.M4
  | 0 => Mth.one
  | k + 1 => Mth.mulM (msI s g k) ⟨0, -1, 1, Mth.nI s (Mth.itI s g k)⟩
theorem ms_ok {g : Mth.F3} {s : Int} (r : Mth.Rt s (Mth.dscF g)) (h : BdF 40 g) : ∀ k, Mth.actF g (msI s g k) = Mth.itI s g k ∧ Mth.detM (msI s g k) = 1 ∧ BdM (43 * k + 1) (msI s g k)
  | 0 => ⟨Mth.act_one g, rfl, BdM.one⟩
  | k + 1 => by
    obtain ⟨h1, h2, h3⟩ := ms_ok r h k
    refine ⟨?_, ?_, ?_⟩
    · show Mth.actF g (Mth.mulM (msI s g k) _) = _
      rw [← Mth.act_mul, h1]
      rfl
    · show Mth.detM (Mth.mulM (msI s g k) _) = 1
      rw [Mth.det_mul, h2, Mth.st_det]
      rfl
    · exact (h3.mul (st_bdF (Mth.it_rt r k) (it_bdF r h k)).2).mono (by omega)
def prI (s : Int) (g : Mth.F3) (i : Nat) : PyData := .tuple [dF (Mth.itI s g i), dM (msI s g i)]
def CyI (g : Mth.F3) (n : Nat) (k : Nat) (e : List Sl) (o : OS) : Prop := ∃ (j : Nat) (x : Sl), e = [.d (dF g), .own, .d (dM (msI (sI g) g j)), .d (dF (Mth.itI (sI g) g j)), x] ∧ o = some ((List.range j).map (prI (sI g) g)) ∧ 0 < j ∧ j ≤ n ∧ k = n - j
theorem i_stepF {g : Mth.F3} {D : Int} (hd : Mth.dscF g = D) (r : Mth.Rt (isq D) D) (h : BdF 40 g) : R_step_of [dF g] (dM ⟨0, -1, 1, Mth.nI (isq D) g⟩) := by
  subst hd
  exact i_step_of r h

section
variable {P : Program} {w : World} {K : Fg} {mg : Str → Option Value} {base : Heap}

def Pre_reduce_indefinite (ds : List PyData) : Prop := ∃ (g : Mth.F3), ds = [dF g] ∧ RtF g ∧ BdF 40 g
def Post_reduce_indefinite (ds : List PyData) (d : PyData) : Prop := ∀ (g : Mth.F3), ds = [dF g] → ∃ (f : Mth.F3) (m : Mth.M4), d = .tuple [dF f, dM m] ∧ Mth.LowI (sI g) g f ∧ Mth.actF g m = f ∧ Mth.detM m = 1 ∧ BdM 2000 m

theorem sc_reduce_indefinite : FnScope ["form", "m", "step"] ["form"] (defScope (top 28)) := ⟨rfl, rfl, rfl, by decide +kernel, rfl, by decide +kernel, by decide +kernel⟩
theorem ok_reduce_indefinite (T : Md K mg) (D : DefAt K mg "reduce_indefinite" "reduce_indefinite" (top 28) ["form"]) (Gis_reduced_indefinite : Ok P w K mg base 2 "is_reduced_indefinite" ["form"] (spD K R_is_reduced_indefinite)) (Gmultiply : Ok P w K mg base 1 "multiply" ["m", "n"] (spD K R_multiply)) (Gact : Ok P w K mg base 2 "act" ["form", "m"] (spD K R_act)) (Gstep_of : Ok P w K mg base 2 "step_of" ["form"] (spD K R_step_of)) : Ok P w K mg base 3 "reduce_indefinite" ["form"] (spP K Pre_reduce_indefinite Post_reduce_indefinite) := by
  obtain ⟨aU, hU, sU⟩ := T.unit
  refine ok_rel D sc_reduce_indefinite (fun ds h => by obtain ⟨g, rfl, _⟩ := h; rfl) fun f cdv A outer s H E hr => ?_
  refine ⟨_, (pss_cons (ps_set (i := 1) sc_reduce_indefinite.nd rfl (Or.inl rfl) (pe_glob (v := .ref aU) (by rfl) hU rfl))
      (pss_cons (ps_while PassesOwn.never (pt_not (pt_val (pe_callO Gis_reduced_indefinite (hr.mono (by decide)) (by rfl) (pa_cons (pv 0) pa_nil)))) (pss_cons (ps_set (i := 2) sc_reduce_indefinite.nd rfl (Or.inl rfl) (pe_callO Gstep_of (hr.mono (by decide)) (by rfl) (pa_cons (pv 0) pa_nil)))
      (pss_cons (ps_set (i := 0) sc_reduce_indefinite.nd rfl (Or.inl rfl) (pe_callO Gact (hr.mono (by decide)) (by rfl) (pa_cons (pv 0) (pa_cons (pv 2) pa_nil))))
      (pss_one (ps_set (i := 1) sc_reduce_indefinite.nd rfl (Or.inl rfl) (pe_callO Gmultiply (hr.mono (by decide)) (by rfl) (pa_cons (pv 1) (pa_cons (pv 2) pa_nil))))))))
      (pss_one (ps_ret (pe_tup (pa_cons (pv 0) (pa_cons (pv 1) pa_nil))))))), ?_⟩
  rintro _ ⟨g, rfl, h0, h1⟩
  show SD K none _ [.d (dF g), .no, .no] none _ _ _ _
  refine q_asg (ev_quad sU) ?_
  have hmu := Mth.muI_le (s := sI g) (show g.c.natAbs < 2 ^ 40 from h1.c)
  refine s_seq (M := fun e o => ∃ k, RiI g k e o ∧ ∃ f y z, e = [.d (dF f), y, z] ∧ Mth.redI (sI g) f) (s_while (RiI g) (m0 := Mth.muI (sI g) g) ⟨0, Mth.one, 1, .no, rfl, rfl, rfl, fun i hi => absurd hi (Nat.not_lt_zero i), Mth.act_one g, rfl, BdM.one, by show 1 + 45 * Mth.muI (sI g) g ≤ _; omega⟩ ?_) ?_
  · rintro k e o ⟨j, m, n, x, rfl, rfl, rfl, e1, e2, e3, p2, p3⟩
    have hd := Mth.it_dsc (sI g) g j
    have hs : sI (Mth.itI (sI g) g j) = sI g := by
      show isq (Mth.dscF _) = _
      rw [hd]
    have rt := Mth.it_rt h0 j
    have bf := it_bdF h0 h1 j
    generalize hf : Mth.itI (sI g) g j = f at *
    have rt2 : Mth.Rt (isq (Mth.dscF f)) (Mth.dscF f) := by
      have : isq (Mth.dscF f) = sI g := hs
      rw [this]
      exact rt
    refine ⟨!decide (Mth.redI (sI g) f), ?_, fun hh => ?_, fun hh => ?_⟩
    · rw [← hs]
      walk_at "et"
    · have hr : ¬ Mth.redI (sI g) f := by simpa using hh
      obtain ⟨sf, sm⟩ := st_bdF rt bf
      refine q_asg (ev_call (ds := [dF f]) (by walk_at "ea") (i_stepF hd h0 bf)) ?_
      refine q_asg (ev_call (ds := [dF f, dM ⟨0, -1, 1, Mth.nI (sI g) f⟩]) (by walk_at "ea") (i_actM bf sm (by omega))) ?_
      refine s_asg (ev_call (ds := [dM m, dM ⟨0, -1, 1, Mth.nI (sI g) f⟩]) (by walk_at "ea") (i_mulM p2 sm (by omega))) ?_
      have hlt := Mth.muI_step rt hr
      have ef : Mth.itI (sI g) g (j + 1) = Mth.stI (sI g) f := by
        show Mth.stI (sI g) (Mth.itI (sI g) g j) = _
        rw [hf]
      refine ⟨_, hlt, j + 1, Mth.mulM m ⟨0, -1, 1, Mth.nI (sI g) f⟩, n + 42 + 1, .d (dM ⟨0, -1, 1, Mth.nI (sI g) f⟩), ?_, rfl, by rw [ef], fun i hi => ?_, ?_, ?_, p2.mul sm, ?_⟩
      · rw [ef]
        rfl
      · by_cases q : i = j
        · subst q
          rw [hf]
          exact hr
        · exact e1 i (by omega)
      · rw [← Mth.act_mul, e2, ef]
        rfl
      · rw [Mth.det_mul, e3, Mth.st_det]
        rfl
      · rw [ef]
        omega
    · have hr : Mth.redI (sI g) f := by simpa using hh
      refine ⟨_, ⟨j, m, n, x, by rw [hf], rfl, by rw [hf], e1, by rw [hf]; exact e2, e3, p2, by rw [hf]; exact p3⟩, f, _, _, rfl, hr⟩
  rintro _ _ ⟨k, ⟨j, m, n, x, rfl, rfl, hk, e1, e2, e3, p2, p3⟩, f, y, z, ee, hr⟩
  have e4 : Mth.itI (sI g) g j = f := dF_inj (Sl.d.inj (List.cons.inj ee).1)
  refine s_ret (by walk_at "ev") ?_
  intro g' hg
  have e5 := dF1 hg
  subst e5
  exact ⟨_, m, rfl, ⟨j, rfl, by rw [e4]; exact hr, e1⟩, e2, e3, p2.mono (by omega)⟩


def Pre_cycle (ds : List PyData) : Prop := ∃ (g : Mth.F3), ds = [dF g] ∧ RtF g ∧ BdF 40 g ∧ Mth.redI (sI g) g
def Post_cycle (ds : List PyData) (d : PyData) : Prop := ∀ (g : Mth.F3), ds = [dF g] → ∃ n, Mth.IsPer (sI g) g n ∧ n ≤ 2701 ∧ d = .list ((List.range n).map (prI (sI g) g))

theorem sc_cycle : FnScope ["form", "found", "m", "neighbour", "step"] ["form"] (defScope (top 29)) := ⟨rfl, rfl, rfl, by decide +kernel, rfl, by decide +kernel, by decide +kernel⟩
theorem ok_cycle (T : Md K mg) (D : DefAt K mg "cycle" "cycle" (top 29) ["form"]) (Gmultiply : Ok P w K mg base 1 "multiply" ["m", "n"] (spD K R_multiply)) (Gact : Ok P w K mg base 2 "act" ["form", "m"] (spD K R_act)) (Gstep_of : Ok P w K mg base 2 "step_of" ["form"] (spD K R_step_of)) : Ok P w K mg base 3 "cycle" ["form"] (spP K Pre_cycle Post_cycle) := by
  obtain ⟨aU, hU, sU⟩ := T.unit
  refine ok_rel D sc_cycle (fun ds h => by obtain ⟨g, rfl, _⟩ := h; rfl) fun f cdv A outer s H E hr => ?_
  refine ⟨_, (pss_cons (ps_set (i := 1) sc_cycle.nd rfl (Or.inl rfl) (pe_lst (pa_cons (pe_tup (pa_cons (pv 0) (pa_cons (pe_glob (v := .ref aU) (by rfl) hU rfl) pa_nil))) pa_nil)))
      (pss_cons (ps_set (i := 2) sc_cycle.nd rfl (Or.inl rfl) (pe_callO Gstep_of (hr.mono (by decide)) (by rfl) (pa_cons (pv 0) pa_nil)))
      (pss_cons (ps_set (i := 3) sc_cycle.nd rfl (Or.inl rfl) (pe_callO Gact (hr.mono (by decide)) (by rfl) (pa_cons (pv 0) (pa_cons (pv 2) pa_nil))))
      (pss_cons (ps_while PassesOwn.never (pt_cmpR (op_neDK (K := K) (by exact rfl) hr.units) (pv 3) (pv 0) (nomark _)) (pss_cons (ps_expr (pe_appK (K := K) (by exact rfl) (pv 1) (pe_tup (pa_cons (pv 3) (pa_cons (pv 2) pa_nil)))))
      (pss_cons (ps_set (i := 4) sc_cycle.nd rfl (Or.inl rfl) (pe_callO Gstep_of (hr.mono (by decide)) (by rfl) (pa_cons (pv 3) pa_nil)))
      (pss_cons (ps_set (i := 3) sc_cycle.nd rfl (Or.inl rfl) (pe_callO Gact (hr.mono (by decide)) (by rfl) (pa_cons (pv 3) (pa_cons (pv 4) pa_nil))))
      (pss_one (ps_set (i := 2) sc_cycle.nd rfl (Or.inl rfl) (pe_callO Gmultiply (hr.mono (by decide)) (by rfl) (pa_cons (pv 2) (pa_cons (pv 4) pa_nil)))))))))
      (pss_one (ps_ret (pv 1))))))), ?_⟩
  rintro _ ⟨g, rfl, h0, h1, h2⟩
  show SD K none _ [.d (dF g), .no, .no, .no, .no] none _ _ _ _
  obtain ⟨n, per, nle⟩ := Mth.per_ex h0 h2
  refine s_seq1 (e2 := [.d (dF g), .own, .no, .no, .no]) (o2 := some ((List.range 1).map (prI (sI g) g))) (s_new rfl (ds := [prI (sI g) g 0]) (ea_cons (ev_tup (ds := [dF g, dM Mth.one]) (ea_cons (by walk_at "ev") (ea_cons (ev_quad sU) ea_nil)) (Nat.le_of_ble_eq_true rfl)) ea_nil) (Nat.le_of_ble_eq_true rfl) ⟨rfl, rfl⟩) ?_
  obtain ⟨sf, sm⟩ := st_bdF h0 h1
  have one_mul : ∀ m : Mth.M4, Mth.mulM Mth.one m = m := fun m => by
    ext <;> simp [Mth.mulM, Mth.one]
  refine q_asg (ev_call (ds := [dF g]) (by walk_at "ea") (i_stepF rfl h0 h1)) ?_
  refine q_asg (ev_call (ds := [dF g, dM ⟨0, -1, 1, Mth.nI (sI g) g⟩]) (by walk_at "ea") (i_actM h1 sm (by omega))) ?_
  refine s_seq (M := fun e o => ∃ x1 x2 x3 x4, e = [x1, .own, x2, x3, x4] ∧ o = some ((List.range n).map (prI (sI g) g))) (s_while (CyI g n) (m0 := n - 1) ⟨1, .no, ?_, rfl, by decide, per.1, rfl⟩ ?_) ?_
  · show _ = [Sl.d (dF g), .own, .d (dM (Mth.mulM Mth.one ⟨0, -1, 1, Mth.nI (sI g) g⟩)), .d (dF (Mth.stI (sI g) g)), .no]
    rw [one_mul]
    rfl
  · rintro k e o ⟨j, x, rfl, rfl, j0, jn, rfl⟩
    have hd := Mth.it_dsc (sI g) g j
    have rt := Mth.it_rt h0 j
    have bf := it_bdF h0 h1 j
    obtain ⟨a1, a2, a3⟩ := ms_ok h0 h1 j
    obtain ⟨sf, sm⟩ := st_bdF rt bf
    refine ⟨!decide ((Mth.itI (sI g) g j).a = g.a ∧ (Mth.itI (sI g) g j).b = g.b ∧ (Mth.itI (sI g) g j).c = g.c), by walk_at "et", fun hh => ?_, fun hh => ?_⟩
    · have hne : Mth.itI (sI g) g j ≠ g := fun z => by
        simp [z] at hh
      have hlt : j < n := by
        rcases Nat.lt_or_ge j n with q | q
        · exact q
        · have : j = n := by omega
          subst this
          exact absurd per.2.1 hne
      refine s_seq1 (s_app rfl (d := prI (sI g) g j) (by unfold prI; walk_at "ev") (by simp; omega) ⟨rfl, rfl⟩) ?_
      refine q_asg (ev_call (ds := [dF (Mth.itI (sI g) g j)]) (by walk_at "ea") (i_stepF hd h0 bf)) ?_
      refine q_asg (ev_call (ds := [dF (Mth.itI (sI g) g j), dM ⟨0, -1, 1, Mth.nI (sI g) (Mth.itI (sI g) g j)⟩]) (by walk_at "ea") (i_actM bf sm (by omega))) ?_
      refine s_asg (ev_call (ds := [dM (msI (sI g) g j), dM ⟨0, -1, 1, Mth.nI (sI g) (Mth.itI (sI g) g j)⟩]) (by walk_at "ea") (i_mulM a3 sm (by omega))) ?_
      refine ⟨n - (j + 1), by omega, j + 1, _, rfl, ?_, by omega, by omega, rfl⟩
      rw [List.range_succ, List.map_append]
      rfl
    · have he : Mth.itI (sI g) g j = g := by
        simp at hh
        exact Mth.F3.ext hh.1 hh.2.1 hh.2.2
      have hj : j = n := by
        rcases Nat.lt_or_ge j n with q | q
        · exact absurd he (per.2.2 j j0 q)
        · omega
      subst hj
      exact ⟨_, _, _, _, rfl, rfl⟩
  rintro _ _ ⟨x1, x2, x3, x4, rfl, rfl⟩
  refine s_retOwn rfl ?_
  intro g' hg
  have e5 := dF1 hg
  subst e5
  exact ⟨n, per, nle, rfl⟩


end
end Kx

-- Kmin
set_option maxHeartbeats 2000000
/-! The least of a list of forms, of pairs (form, matrix). -/
namespace Kx
open PySem PySem.Spec PyProof.Rows L2
def pr (x : Mth.F3 × Mth.M4) : PyData := .tuple [dF x.1, dM x.2]
theorem toksF (f : Mth.F3) : PySem.W.keyToks (dF f) = [.inl 1, .inl f.a, .inl 1, .inl f.b, .inl 1, .inl f.c, .inl 0] := rfl
theorem toksP (x : Mth.F3 × Mth.M4) : ∃ r, PySem.W.keyToks (pr x) = .inl 1 :: .inl 1 :: .inl x.1.a :: .inl 1 :: .inl x.1.b :: .inl 1 :: .inl x.1.c :: r := ⟨_, rfl⟩
theorem lexI {a b : Int} {r t : List (Int ⊕ List Nat)} : lexLt itemOrd (.inl a :: r) (.inl b :: t) = (decide (a < b) || (!decide (b < a) && lexLt itemOrd r t)) := rfl
theorem lex3 {a b c x y z : Int} {r t : List (Int ⊕ List Nat)} (h : ¬ (a = x ∧ b = y ∧ c = z)) : lexLt itemOrd (.inl a :: .inl 1 :: .inl b :: .inl 1 :: .inl c :: r) (.inl x :: .inl 1 :: .inl y :: .inl 1 :: .inl z :: t) = Mth.ltF ⟨a, b, c⟩ ⟨x, y, z⟩ := by
  unfold Mth.ltF
  show (decide (a < x) || (!decide (x < a) && (decide ((1 : Int) < 1) || (!decide ((1 : Int) < 1) && (decide (b < y) || (!decide (y < b) && (decide ((1 : Int) < 1) || (!decide ((1 : Int) < 1) && (decide (c < z) || (!decide (z < c) && lexLt itemOrd r t)))))))))) = _
  have e11 : decide ((1 : Int) < 1) = false := by decide
  rw [e11]
  simp only [Bool.false_or, Bool.not_false, Bool.true_and]
  rw [Bool.eq_iff_iff]
  simp only [Bool.or_eq_true, Bool.and_eq_true, Bool.not_eq_true', decide_eq_true_eq, decide_eq_false_iff_not]
  rcases Int.lt_trichotomy a x with q | q | q
  · exact ⟨fun _ => .inl q, fun _ => .inl q⟩
  · subst q
    rcases Int.lt_trichotomy b y with q | q | q
    · exact ⟨fun _ => .inr ⟨rfl, .inl q⟩, fun _ => .inr ⟨by omega, .inl q⟩⟩
    · subst q
      have hc : c ≠ z := fun e => h ⟨rfl, rfl, e⟩
      constructor
      · rintro (k | ⟨_, k | ⟨_, k | ⟨k, _⟩⟩⟩)
        · omega
        · omega
        · exact .inr ⟨rfl, .inr ⟨rfl, k⟩⟩
        · exact .inr ⟨rfl, .inr ⟨rfl, by omega⟩⟩
      · rintro (k | ⟨_, k | ⟨_, k⟩⟩)
        · omega
        · omega
        · exact .inr ⟨by omega, .inr ⟨by omega, .inl k⟩⟩
    · constructor
      · rintro (k | ⟨_, k | ⟨k, _⟩⟩) <;> omega
      · rintro (k | ⟨_, k | ⟨k, _⟩⟩) <;> omega
  · constructor
    · rintro (k | ⟨k, _⟩) <;> omega
    · rintro (k | ⟨k, _⟩) <;> omega
theorem ltF_irr (f : Mth.F3) : Mth.ltF f f = false := by
  unfold Mth.ltF
  exact decide_eq_false (by omega)
theorem dataLt_F (f g : Mth.F3) : PySem.W.dataLt (dF f) (dF g) = Mth.ltF f g := by
  by_cases h : f = g
  · subst h
    rw [ltF_irr]
    exact lex_irrefl _
  · unfold PySem.W.dataLt
    rw [toksF, toksF]
    refine (lex_self (O := itemOrd) _ _ _).trans ?_
    exact lex3 fun z => h (Mth.F3.ext z.1 z.2.1 z.2.2)
theorem dataLt_P {x y : Mth.F3 × Mth.M4} (h : x.1 ≠ y.1) : PySem.W.dataLt (pr x) (pr y) = Mth.ltF x.1 y.1 := by
  unfold PySem.W.dataLt
  obtain ⟨r, e⟩ := toksP x
  obtain ⟨t, e2⟩ := toksP y
  rw [e, e2]
  refine (lex_self (O := itemOrd) _ _ _).trans ((lex_self (O := itemOrd) _ _ _).trans ?_)
  exact lex3 fun z => h (Mth.F3.ext z.1 z.2.1 z.2.2)
theorem minD_F (f : Mth.F3) (fs : List Mth.F3) : PySem.W.minD (dF f) (fs.map fun g => dF g) = dF (Mth.leastF f fs) := by
  unfold PySem.W.minD Mth.leastF
  induction fs generalizing f with
  | nil => rfl
  | cons g r ih =>
    rw [List.map_cons, List.foldl_cons, List.foldl_cons, dataLt_F]
    cases Mth.ltF g f with
    | true => exact ih g
    | false => exact ih f
theorem minD_P (x : Mth.F3 × Mth.M4) (xs : List (Mth.F3 × Mth.M4)) : ∃ y, y ∈ x :: xs ∧ PySem.W.minD (pr x) (xs.map pr) = pr y ∧ y.1 = Mth.leastF x.1 (xs.map (·.1)) := by
  unfold PySem.W.minD Mth.leastF
  induction xs generalizing x with
  | nil => exact ⟨x, List.mem_cons_self, rfl, rfl⟩
  | cons z r ih =>
    rw [List.map_cons, List.map_cons, List.foldl_cons, List.foldl_cons]
    have step : ∃ b : Bool, (if PySem.W.dataLt (pr z) (pr x) = true then pr z else pr x) = pr (if b = true then z else x) ∧ (if b = true then z else x).1 = (if Mth.ltF z.1 x.1 = true then z.1 else x.1) := by
      refine ⟨PySem.W.dataLt (pr z) (pr x), ?_, ?_⟩
      · cases PySem.W.dataLt (pr z) (pr x) <;> rfl
      · by_cases h : z.1 = x.1
        · rw [h, ltF_irr]
          cases PySem.W.dataLt (pr z) (pr x)
          · rfl
          · exact h
        · rw [dataLt_P h]
          cases Mth.ltF z.1 x.1 <;> rfl
    obtain ⟨b, e1, e2⟩ := step
    rw [e1, ← e2]
    obtain ⟨y, h1, h2, h3⟩ := ih (if b = true then z else x)
    refine ⟨y, ?_, h2, h3⟩
    rcases List.mem_cons.mp h1 with q | q
    · rw [q]
      cases b
      · exact List.mem_cons_self
      · exact List.mem_cons_of_mem _ List.mem_cons_self
    · exact List.mem_cons_of_mem _ (List.mem_cons_of_mem _ q)
theorem alike_F (fs : List Mth.F3) : PySem.W.AlikeAll (fs.map fun g => dF g) := by
  refine ⟨fun x hx y hy => ?_, fun x hx => ?_⟩
  · obtain ⟨f, _, rfl⟩ := List.mem_map.mp hx
    obtain ⟨g, _, rfl⟩ := List.mem_map.mp hy
    rfl
  · obtain ⟨f, _, rfl⟩ := List.mem_map.mp hx
    exact fun z => nomatch z
theorem alike_P (fs : List (Mth.F3 × Mth.M4)) : PySem.W.AlikeAll (fs.map pr) := by
  refine ⟨fun x hx y hy => ?_, fun x hx => ?_⟩
  · obtain ⟨f, _, rfl⟩ := List.mem_map.mp hx
    obtain ⟨g, _, rfl⟩ := List.mem_map.mp hy
    rfl
  · obtain ⟨f, _, rfl⟩ := List.mem_map.mp hx
    exact fun z => nomatch z
theorem depth_F : ∀ fs : List Mth.F3, PyData.depthAll (fs.map fun g => dF g) ≤ 10
  | [] => Nat.zero_le _
  | f :: r => Nat.max_le.mpr ⟨show PyData.depth (dF f) ≤ 10 from Nat.le_of_ble_eq_true rfl, depth_F r⟩
theorem depth_P : ∀ fs : List (Mth.F3 × Mth.M4), PyData.depthAll (fs.map pr) ≤ 10
  | [] => Nat.zero_le _
  | f :: r => Nat.max_le.mpr ⟨show PyData.depth (pr f) ≤ 10 from Nat.le_of_ble_eq_true rfl, depth_P r⟩
end Kx

-- K7
set_option maxHeartbeats 2000000
namespace Kx
open PySem PySem.Spec PyProof.Rows L2
local macro_rules | `(tactic| walk_at "bd") => `(tactic| first | assumption | exact Bd.lit (by decide) | ((with_reducible apply Bd.mul) <;> walk_at "bd") | ((with_reducible apply Bd.add) <;> walk_at "bd") | ((with_reducible apply Bd.sub) <;> walk_at "bd") | ((with_reducible apply Bd.neg); walk_at "bd"))
local macro_rules | `(tactic| walk_at "mul") => `(tactic| first | assumption | exact mulok_l (Bd.mono (by walk_at "bd") (by omega)) | exact mulok_r (Bd.mono (by walk_at "bd") (by omega)) | ((with_reducible apply mulok); (focus walk_at "bd"); (focus walk_at "bd"); omega))
local macro_rules | `(tactic| walk_at "cond") => `(tactic| first | assumption | walk_at "mul" | exact cfd (by first | assumption | omega) (by walk_at "bd") (by omega) | omega | decide)
local macro_rules | `(tactic| walk_at "rv") => `(tactic| first | with_reducible exact rv_I0 | with_reducible exact rv_B0 | with_reducible exact rv_eqI | with_reducible exact rv_neI | with_reducible exact rv_eqF | with_reducible exact rv_neF | with_reducible exact rv_eqS | ((with_reducible apply rv_I); walk_at "cond") | ((with_reducible apply rv_ixT); exact rfl) | ((with_reducible apply rv_ixL); exact rfl) | with_reducible exact rv_isN | with_reducible exact rv_notN | exact rv_cat (Nat.le_of_ble_eq_true rfl))
local macro_rules | `(tactic| walk_at "ev") => `(tactic| first
  | ((with_reducible apply ev_var); exact rfl) | with_reducible exact ev_int | with_reducible exact ev_bl | with_reducible exact ev_str | with_reducible exact ev_non | exact ev_quad (by assumption)
  | ((with_reducible apply ev_op); (focus walk_at "ev"); (focus walk_at "ev"); (focus walk_at "rv"))
  | ((with_reducible apply ev_un); (focus walk_at "ev"); with_reducible exact ru_I)
  | ((with_reducible apply ev_tup); (focus walk_at "ea"); exact Nat.le_of_ble_eq_true rfl)
  | ((with_reducible apply ev_lst); (focus walk_at "ea"); exact Nat.le_of_ble_eq_true rfl)
  | ((with_reducible apply ev_call); (focus walk_at "ea"); (focus walk_at "call"))
  | ((with_reducible apply ev_cb); (focus walk_at "ea"); (focus walk_at "rc"))
  | ((with_reducible apply ev_andV); (focus walk_at "ev"); (intro hh_; (focus walk_at "ev")))
  | ((with_reducible apply ev_orV); (focus walk_at "ev"); (intro hh_; (focus walk_at "ev")))
  | ((with_reducible apply ev_chain); (focus walk_at "ev"); (focus walk_at "ev"); (focus walk_at "rv"); (intro hh_; (focus walk_at "ev")); (intro hh_; (focus walk_at "rv")))
  | ((with_reducible apply ev_notV); walk_at "ev")
  | ((with_reducible apply ev_cut2); walk_at "ev"))
local macro_rules | `(tactic| walk_at "ea") => `(tactic| first | with_reducible exact ea_nil | ((with_reducible apply ea_cons); (focus walk_at "ev"); (focus walk_at "ea")))
local macro_rules | `(tactic| walk_at "rc") => `(tactic| first | with_reducible exact rc_abs | with_reducible exact rc_intI | with_reducible exact rc_intB | with_reducible exact rc_lenL | with_reducible exact rc_tupOf | exact rc_isq (by assumption) (by assumption) | exact rc_isq (by omega) (by omega))
local macro_rules | `(tactic| walk_at "et") => `(tactic| first
  | ((with_reducible apply et_test); walk_at "ev")
  | ((with_reducible apply et_B); walk_at "ev")
  | ((with_reducible apply et_and); (focus walk_at "et"); (intro hh_; (focus walk_at "et")))
  | ((with_reducible apply et_or); (focus walk_at "et"); (intro hh_; (focus walk_at "et")))
  | ((with_reducible apply et_not); walk_at "et"))
local macro_rules | `(tactic| walk_at "tg") => `(tactic| first | with_reducible exact tg_name | ((with_reducible apply tg_tup); (focus walk_at "tgs"); exact rfl) | ((with_reducible apply tg_unl); (focus walk_at "tgs"); exact rfl))
local macro_rules | `(tactic| walk_at "tgs") => `(tactic| first | with_reducible exact tg_nil | ((with_reducible apply tg_cons); (focus walk_at "tg"); (focus walk_at "tgs")))
local macro_rules | `(tactic| walk_at "pre") => `(tactic| first | assumption | walk_at "bd" | exact Bd.mono (by walk_at "bd") (by omega) | omega | decide)

local macro_rules | `(tactic| walk_at "call") => `(tactic| ((with_reducible apply i_worth); all_goals (walk_at "pre")))

local macro_rules | `(tactic| walk_at "call") => `(tactic| ((with_reducible apply i_act); all_goals (walk_at "pre")))

local macro_rules | `(tactic| walk_at "call") => `(tactic| ((with_reducible apply i_discriminant); all_goals (walk_at "pre")))

local macro_rules | `(tactic| walk_at "call") => `(tactic| ((with_reducible apply i_scaled); all_goals (walk_at "pre")))

local macro_rules | `(tactic| walk_at "call") => `(tactic| ((with_reducible apply i_divided); all_goals (walk_at "pre")))

local macro_rules | `(tactic| walk_at "call") => `(tactic| ((with_reducible apply i_multiply); all_goals (walk_at "pre")))

local macro_rules | `(tactic| walk_at "call") => `(tactic| ((with_reducible apply i_determinant); all_goals (walk_at "pre")))

local macro_rules | `(tactic| walk_at "call") => `(tactic| ((with_reducible apply i_inverse); all_goals (walk_at "pre")))

local macro_rules | `(tactic| walk_at "call") => `(tactic| ((with_reducible apply i_floor_root); all_goals (walk_at "pre")))

local macro_rules | `(tactic| walk_at "call") => `(tactic| ((with_reducible apply i_is_square); all_goals (walk_at "pre")))

local macro_rules | `(tactic| walk_at "call") => `(tactic| ((with_reducible apply i_kind); all_goals (walk_at "pre")))

local macro_rules | `(tactic| walk_at "call") => `(tactic| ((with_reducible apply i_is_reduced_definite)))


local macro_rules | `(tactic| walk_at "call") => `(tactic| ((with_reducible apply i_measure); all_goals (walk_at "pre")))

local macro_rules | `(tactic| walk_at "call") => `(tactic| ((with_reducible apply i_content); all_goals (walk_at "pre")))

local macro_rules | `(tactic| walk_at "call") => `(tactic| ((with_reducible apply i_is_reduced_indefinite); all_goals (walk_at "pre")))

local macro_rules | `(tactic| walk_at "call") => `(tactic| ((with_reducible apply i_step_of); all_goals (walk_at "pre")))

local macro_rules | `(tactic| walk_at "call") => `(tactic| ((with_reducible apply i_discF); assumption))

section
variable {P : Program} {w : World} {K : Fg} {mg : Str → Option Value} {base : Heap}

def Pre_canonical (ds : List PyData) : Prop := ∃ (g : Mth.F3), ds = [dF g] ∧ RtF g ∧ BdF 40 g
def Post_canonical (ds : List PyData) (d : PyData) : Prop := ∀ (g : Mth.F3), ds = [dF g] → ∃ (C : Mth.F3) (m : Mth.M4), d = .tuple [dF C, dM m] ∧ Mth.CanI (sI g) g C ∧ Mth.actF g m = C ∧ Mth.detM m = 1 ∧ BdM 120000 m

theorem sc_canonical : FnScope ["form", "reduced", "m", "least", "step"] ["form"] (defScope (top 30)) := ⟨rfl, rfl, rfl, by decide +kernel, rfl, by decide +kernel, by decide +kernel⟩
theorem ok_canonical (T : Md K mg) (D : DefAt K mg "canonical" "canonical" (top 30) ["form"]) (Gmultiply : Ok P w K mg base 1 "multiply" ["m", "n"] (spD K R_multiply)) (Gcycle : Ok P w K mg base 3 "cycle" ["form"] (spP K Pre_cycle Post_cycle)) (Greduce_indefinite : Ok P w K mg base 3 "reduce_indefinite" ["form"] (spP K Pre_reduce_indefinite Post_reduce_indefinite)) : Ok P w K mg base 4 "canonical" ["form"] (spP K Pre_canonical Post_canonical) := by
  refine ok_rel D sc_canonical (fun ds h => by obtain ⟨g, rfl, _⟩ := h; rfl) fun f cdv A outer s H E hr => ?_
  refine ⟨_, (pss_cons (ps_asg (pe_callO Greduce_indefinite (hr.mono (by decide)) (by rfl) (pa_cons (pv 0) pa_nil)) (pg_tupK (K := K) 2 (by exact rfl) rfl (pgs_cons (pg_name (i := 1) sc_canonical.nd rfl (Or.inl rfl)) (pgs_cons (pg_name (i := 2) sc_canonical.nd rfl (Or.inl rfl)) pgs_nil)) (by rfl) (by rfl)))
      (pss_cons (ps_asg (pe_callB (cr_minDK (K := K) (by exact rfl) rfl hr.units) (by rfl) T.min PyProof.Rows.boot_min (pa_cons (pe_callO Gcycle (hr.mono (by decide)) (by rfl) (pa_cons (pv 1) pa_nil)) pa_nil)) (pg_tupK (K := K) 2 (by exact rfl) rfl (pgs_cons (pg_name (i := 3) sc_canonical.nd rfl (Or.inl rfl)) (pgs_cons (pg_name (i := 4) sc_canonical.nd rfl (Or.inl rfl)) pgs_nil)) (by rfl) (by rfl)))
      (pss_one (ps_ret (pe_tup (pa_cons (pv 3) (pa_cons (pe_callO Gmultiply (hr.mono (by decide)) (by rfl) (pa_cons (pv 2) (pa_cons (pv 4) pa_nil))) pa_nil))))))), ?_⟩
  rintro _ ⟨g, rfl, h0, h1⟩
  show SD K none _ [.d (dF g), .no, .no, .no, .no] none _ _ _ _
  refine q_asgR (er_callP' (by walk_at "ea") ⟨g, rfl, h0, h1⟩ fun d hd => ?_)
  obtain ⟨f, m, rfl, low, e1, e2, p2⟩ := hd g rfl
  refine ⟨_, by walk_at "tg", ?_⟩
  have hdf : Mth.dscF f = Mth.dscF g := by
    rw [← e1]
    exact Mth.dsc_act1 e2
  have hsf : sI f = sI g := by
    show isq (Mth.dscF f) = _
    rw [hdf]
  have rt : RtF f := by
    show Mth.Rt (isq (Mth.dscF f)) (Mth.dscF f)
    rw [hdf]
    exact h0
  have bf : BdF 40 f := by
    obtain ⟨k, e, _⟩ := low
    rw [e]
    exact it_bdF h0 h1 k
  have red : Mth.redI (sI f) f := by
    rw [hsf]
    exact low.choose_spec.2.1
  refine q_asgR (er_cb (ear_cons (er_callP' (by walk_at "ea") ⟨f, rfl, rt, bf, red⟩ fun d hd => ear_nil ?_)))
  obtain ⟨n, per, nle, rfl⟩ := hd f rfl
  have hl : (List.range n).map (prI (sI f) f) = ((List.range n).map fun i => (Mth.itI (sI f) f i, msI (sI f) f i)).map pr := by
    rw [List.map_map]
    rfl
  have hmem : ∀ y, y ∈ ((List.range n).map fun i => (Mth.itI (sI f) f i, msI (sI f) f i)) → Mth.actF f y.2 = y.1 ∧ Mth.detM y.2 = 1 ∧ BdM 117000 y.2 := by
    intro y hy
    obtain ⟨i, hi, rfl⟩ := List.mem_map.mp hy
    have hi2 := List.mem_range.mp hi
    obtain ⟨a1, a2, a3⟩ := ms_ok rt bf i
    exact ⟨a1, a2, a3.mono (by omega)⟩
  have hring : ((List.range n).map fun i => (Mth.itI (sI f) f i, msI (sI f) f i)).map (·.1) = Mth.ringI (sI f) f n := by
    rw [List.map_map]
    rfl
  rw [hl]
  obtain ⟨xs, hxs⟩ := Mth.ring_cons (sI f) f per.1
  rw [hxs] at hring
  generalize ((List.range n).map fun i => (Mth.itI (sI f) f i, msI (sI f) f i)) = ps at *
  cases ps with
  | nil => cases hring
  | cons x0 r =>
    rw [List.map_cons] at hring
    obtain ⟨hx0, hr⟩ := List.cons.inj hring
    obtain ⟨y, y1, y2, y3⟩ := minD_P x0 r
    obtain ⟨a1, a2, a3⟩ := hmem y y1
    have hrc : RcD K (rMinD K) [.list ((x0 :: r).map pr)] (pr y) := rc_minD (x := pr x0) (ds := r.map pr) (alike_P (x0 :: r)) (depth_P (x0 :: r)) y2
    refine ⟨_, hrc, _, tg_tup (tg_cons tg_name (tg_cons tg_name tg_nil)) rfl, ?_⟩
    refine s_ret (d := .tuple [dF y.1, dM (Mth.mulM m y.2)]) ?_ ?_
    · exact ev_tup (ea_cons (ev_var rfl) (ea_cons (ev_call (ds := [dM m, dM y.2]) (ea_cons (ev_var rfl) (ea_cons (ev_var rfl) ea_nil)) (i_mulM p2 a3 (by omega))) ea_nil)) (Nat.le_of_ble_eq_true rfl)
    · intro g' hg
      have e5 := dF1 hg
      subst e5
      refine ⟨y.1, _, rfl, ⟨f, n, xs, low, by rw [← hsf]; exact per, by rw [← hsf]; exact hxs, ?_⟩, ?_, ?_, (p2.mul a3).mono (by omega)⟩
      · rw [y3, hx0, hr]
      · rw [← Mth.act_mul, e1, a1]
      · rw [Mth.det_mul, e2, a2]
        rfl


def R_law_root (ds : List PyData) (d : PyData) : Prop := ∃ (n : Int), ds = [.int n] ∧ 0 ≤ n ∧ n ≤ 1900 ∧ d = .int (isq n)
theorem i_law_root {n : Int} (hp0 : 0 ≤ n) (hp1 : n ≤ 1900) : R_law_root [.int n] (.int (isq n)) := ⟨_, rfl, hp0, hp1, rfl⟩

def LrI (n : Int) (k : Nat) (e : List Sl) (o : OS) : Prop := ∃ (lo hi : Int) (x y : Sl), e = [.d (.int n), .d (.int lo), .d (.int hi), x, y] ∧ o = none ∧ 0 ≤ lo ∧ lo < hi ∧ lo * lo ≤ n ∧ n < hi * hi ∧ hi - lo + k ≤ 1901 ∧ hi ≤ 1901
theorem sc_law_root : FnScope ["_law_n", "_law_low", "_law_high", "_law_k", "_law_middle"] ["_law_n"] (defScope (top 49)) := ⟨rfl, rfl, rfl, by decide +kernel, rfl, by decide +kernel, by decide +kernel⟩
theorem ok_law_root (T : Md K mg) (D : DefAt K mg "_law_root" "_law_root" (top 49) ["_law_n"])  : Ok P w K mg base 1 "_law_root" ["_law_n"] (spD K R_law_root) := by
  refine ok_pure D sc_law_root (fun ds d h => by obtain ⟨n, rfl, _⟩ := h; rfl) fun f cdv A outer s H E hr => ?_
  refine ⟨_, (pss_cons (ps_set (i := 1) sc_law_root.nd rfl (Or.inl rfl) pe_int)
      (pss_cons (ps_set (i := 2) sc_law_root.nd rfl (Or.inl rfl) (pe_op op_add (pv 0) pe_int))
      (pss_cons (ps_for PassesOwn.never rfl (pi_range1 (by rfl) T.range (pa_cons pe_int pa_nil)) (pg_name (i := 3) sc_law_root.nd rfl (Or.inl rfl)) (pss_cons (ps_if (pt_cmpR op_le (pe_op op_sub (pv 2) (pv 1)) pe_int (nomark _)) (pss_one (ps_ret (pv 1))) pss_nil)
      (pss_cons (ps_set (i := 4) sc_law_root.nd rfl (Or.inl rfl) (pe_op op_fdX (pe_op op_add (pv 1) (pv 2)) pe_int))
      (pss_one (ps_if (pt_cmpR op_le (pe_op op_mulX (pv 4) (pv 4)) (pv 0) (nomark _)) (pss_one (ps_set (i := 1) sc_law_root.nd rfl (Or.inl rfl) (pv 4))) (pss_one (ps_set (i := 2) sc_law_root.nd rfl (Or.inl rfl) (pv 4))))))))
      (pss_one (ps_ret (pv 1)))))), ?_⟩
  rintro _ _ ⟨n, rfl, h0, h1, rfl⟩
  show SD K none _ [.d (.int n), .no, .no, .no, .no] none _ _ _ _
  obtain ⟨z0, z1, z2⟩ := isq_spec n h0
  refine q_asg (by walk_at "ev") ?_
  refine q_asg (by walk_at "ev") ?_
  refine s_seq (M := fun e o => LrI n 2000 e o) (s_forR (LrI n) ((by walk_at "ea" : EvA K _ _ none [.int 2000]).toR ⟨2000, rfl, by decide, by decide, ⟨0, n + 1, _, _, rfl, rfl, by omega, by omega, by omega, ?_, by omega, by omega⟩, ?_, fun e o h => h⟩)) ?_
  · have := Int.mul_le_mul_of_nonneg_left (show 1 ≤ n + 1 by omega) (show 0 ≤ n + 1 by omega)
    omega
  · rintro i _ _ hi ⟨lo, hi', x, y, rfl, rfl, k0, k1, k2, k3, k4, k5⟩
    refine s_seq (M := fun e o => e = [.d (.int n), .d (.int lo), .d (.int hi'), .d (.int i), y] ∧ o = none ∧ ¬ hi' - lo ≤ 1) (s_if (by walk_at "et") (fun hh => ?_) fun hh => ?_) ?_
    · have hp := of_decide_eq_true hh
      refine s_ret (by walk_at "ev") ?_
      have e : hi' = lo + 1 := by omega
      subst e
      congr 1
      rcases Int.lt_trichotomy lo (isq n) with q | q | q
      · have := Int.mul_le_mul (show lo + 1 ≤ isq n by omega) (show lo + 1 ≤ isq n by omega) (by omega) (by omega)
        omega
      · exact q
      · have := Int.mul_le_mul (show isq n + 1 ≤ lo by omega) (show isq n + 1 ≤ lo by omega) (by omega) (by omega)
        omega
    · exact s_next ⟨rfl, rfl, of_decide_eq_false hh⟩
    rintro _ _ ⟨rfl, rfl, hn⟩
    have b1 : Bd 40 lo := Bd.of (by omega)
    have b2 : Bd 40 hi' := Bd.of (by omega)
    have hm : (lo + hi').fdiv 2 = (lo + hi') / 2 := Int.fdiv_eq_ediv_of_nonneg _ (by decide)
    have h2 : (2 : Int) ≠ 0 := by decide
    refine q_asg (d := .int ((lo + hi') / 2)) (by rw [← hm]; walk_at "ev") ?_
    have b3 : Bd 40 ((lo + hi') / 2) := Bd.of (by omega)
    refine s_if (by walk_at "et") (fun hh => ?_) fun hh => ?_
    · have hp := of_decide_eq_true hh
      exact s_asg (by walk_at "ev") ⟨(lo + hi') / 2, hi', _, _, rfl, rfl, by omega, by omega, hp, k3, by omega, k5⟩
    · have hp := of_decide_eq_false hh
      exact s_asg (by walk_at "ev") ⟨lo, (lo + hi') / 2, _, _, rfl, rfl, by omega, by omega, k2, by omega, by omega, by omega⟩
  rintro _ _ ⟨lo, hi', x, y, rfl, rfl, k0, k1, k2, k3, k4, k5⟩
  exfalso
  omega

local macro_rules | `(tactic| walk_at "call") => `(tactic| ((with_reducible apply i_law_root); all_goals (walk_at "pre")))

end
end Kx

-- K8
set_option maxHeartbeats 2000000
namespace Kx
open PySem PySem.Spec PyProof.Rows L2
local macro_rules | `(tactic| walk_at "bd") => `(tactic| first | assumption | exact Bd.lit (by decide) | ((with_reducible apply Bd.mul) <;> walk_at "bd") | ((with_reducible apply Bd.add) <;> walk_at "bd") | ((with_reducible apply Bd.sub) <;> walk_at "bd") | ((with_reducible apply Bd.neg); walk_at "bd"))
local macro_rules | `(tactic| walk_at "mul") => `(tactic| first | assumption | exact mulok_l (Bd.mono (by walk_at "bd") (by omega)) | exact mulok_r (Bd.mono (by walk_at "bd") (by omega)) | ((with_reducible apply mulok); (focus walk_at "bd"); (focus walk_at "bd"); omega))
local macro_rules | `(tactic| walk_at "cond") => `(tactic| first | assumption | walk_at "mul" | exact cfd (by first | assumption | omega) (by walk_at "bd") (by omega) | omega | decide)
local macro_rules | `(tactic| walk_at "rv") => `(tactic| first | with_reducible exact rv_I0 | with_reducible exact rv_B0 | with_reducible exact rv_eqI | with_reducible exact rv_neI | with_reducible exact rv_eqF | with_reducible exact rv_neF | with_reducible exact rv_eqS | ((with_reducible apply rv_I); walk_at "cond") | ((with_reducible apply rv_ixT); exact rfl) | ((with_reducible apply rv_ixL); exact rfl) | with_reducible exact rv_isN | with_reducible exact rv_notN | exact rv_cat (Nat.le_of_ble_eq_true rfl))
local macro_rules | `(tactic| walk_at "ev") => `(tactic| first
  | ((with_reducible apply ev_var); exact rfl) | with_reducible exact ev_int | with_reducible exact ev_bl | with_reducible exact ev_str | with_reducible exact ev_non | exact ev_quad (by assumption)
  | ((with_reducible apply ev_op); (focus walk_at "ev"); (focus walk_at "ev"); (focus walk_at "rv"))
  | ((with_reducible apply ev_un); (focus walk_at "ev"); with_reducible exact ru_I)
  | ((with_reducible apply ev_tup); (focus walk_at "ea"); exact Nat.le_of_ble_eq_true rfl)
  | ((with_reducible apply ev_lst); (focus walk_at "ea"); exact Nat.le_of_ble_eq_true rfl)
  | ((with_reducible apply ev_call); (focus walk_at "ea"); (focus walk_at "call"))
  | ((with_reducible apply ev_cb); (focus walk_at "ea"); (focus walk_at "rc"))
  | ((with_reducible apply ev_andV); (focus walk_at "ev"); (intro hh_; (focus walk_at "ev")))
  | ((with_reducible apply ev_orV); (focus walk_at "ev"); (intro hh_; (focus walk_at "ev")))
  | ((with_reducible apply ev_chain); (focus walk_at "ev"); (focus walk_at "ev"); (focus walk_at "rv"); (intro hh_; (focus walk_at "ev")); (intro hh_; (focus walk_at "rv")))
  | ((with_reducible apply ev_notV); walk_at "ev")
  | ((with_reducible apply ev_cut2); walk_at "ev"))
local macro_rules | `(tactic| walk_at "ea") => `(tactic| first | with_reducible exact ea_nil | ((with_reducible apply ea_cons); (focus walk_at "ev"); (focus walk_at "ea")))
local macro_rules | `(tactic| walk_at "rc") => `(tactic| first | with_reducible exact rc_abs | with_reducible exact rc_intI | with_reducible exact rc_intB | with_reducible exact rc_lenL | with_reducible exact rc_tupOf | exact rc_isq (by assumption) (by assumption) | exact rc_isq (by omega) (by omega))
local macro_rules | `(tactic| walk_at "et") => `(tactic| first
  | ((with_reducible apply et_test); walk_at "ev")
  | ((with_reducible apply et_B); walk_at "ev")
  | ((with_reducible apply et_and); (focus walk_at "et"); (intro hh_; (focus walk_at "et")))
  | ((with_reducible apply et_or); (focus walk_at "et"); (intro hh_; (focus walk_at "et")))
  | ((with_reducible apply et_not); walk_at "et"))
local macro_rules | `(tactic| walk_at "tg") => `(tactic| first | with_reducible exact tg_name | ((with_reducible apply tg_tup); (focus walk_at "tgs"); exact rfl) | ((with_reducible apply tg_unl); (focus walk_at "tgs"); exact rfl))
local macro_rules | `(tactic| walk_at "tgs") => `(tactic| first | with_reducible exact tg_nil | ((with_reducible apply tg_cons); (focus walk_at "tg"); (focus walk_at "tgs")))
local macro_rules | `(tactic| walk_at "pre") => `(tactic| first | assumption | walk_at "bd" | exact Bd.mono (by walk_at "bd") (by omega) | omega | decide)

local macro_rules | `(tactic| walk_at "call") => `(tactic| ((with_reducible apply i_worth); all_goals (walk_at "pre")))

local macro_rules | `(tactic| walk_at "call") => `(tactic| ((with_reducible apply i_act); all_goals (walk_at "pre")))

local macro_rules | `(tactic| walk_at "call") => `(tactic| ((with_reducible apply i_discriminant); all_goals (walk_at "pre")))

local macro_rules | `(tactic| walk_at "call") => `(tactic| ((with_reducible apply i_scaled); all_goals (walk_at "pre")))

local macro_rules | `(tactic| walk_at "call") => `(tactic| ((with_reducible apply i_divided); all_goals (walk_at "pre")))

local macro_rules | `(tactic| walk_at "call") => `(tactic| ((with_reducible apply i_multiply); all_goals (walk_at "pre")))

local macro_rules | `(tactic| walk_at "call") => `(tactic| ((with_reducible apply i_determinant); all_goals (walk_at "pre")))

local macro_rules | `(tactic| walk_at "call") => `(tactic| ((with_reducible apply i_inverse); all_goals (walk_at "pre")))

local macro_rules | `(tactic| walk_at "call") => `(tactic| ((with_reducible apply i_floor_root); all_goals (walk_at "pre")))

local macro_rules | `(tactic| walk_at "call") => `(tactic| ((with_reducible apply i_is_square); all_goals (walk_at "pre")))

local macro_rules | `(tactic| walk_at "call") => `(tactic| ((with_reducible apply i_kind); all_goals (walk_at "pre")))

local macro_rules | `(tactic| walk_at "call") => `(tactic| ((with_reducible apply i_is_reduced_definite)))


local macro_rules | `(tactic| walk_at "call") => `(tactic| ((with_reducible apply i_measure); all_goals (walk_at "pre")))

local macro_rules | `(tactic| walk_at "call") => `(tactic| ((with_reducible apply i_content); all_goals (walk_at "pre")))

local macro_rules | `(tactic| walk_at "call") => `(tactic| ((with_reducible apply i_is_reduced_indefinite); all_goals (walk_at "pre")))

local macro_rules | `(tactic| walk_at "call") => `(tactic| ((with_reducible apply i_step_of); all_goals (walk_at "pre")))

local macro_rules | `(tactic| walk_at "call") => `(tactic| ((with_reducible apply i_law_root); all_goals (walk_at "pre")))

local macro_rules | `(tactic| walk_at "call") => `(tactic| ((with_reducible apply i_discF); assumption))

section
variable {P : Program} {w : World} {K : Fg} {mg : Str → Option Value} {base : Heap}

def R_law_square (ds : List PyData) (d : PyData) : Prop := ∃ (n : Int), ds = [.int n] ∧ n ≤ 1900 ∧ d = .bool (isSqB n)
theorem i_law_square {n : Int} (hp0 : n ≤ 1900) : R_law_square [.int n] (.bool (isSqB n)) := ⟨_, rfl, hp0, rfl⟩

theorem sc_law_square : FnScope ["_law_n"] ["_law_n"] (defScope (top 55)) := ⟨rfl, rfl, rfl, by decide +kernel, rfl, by decide +kernel, by decide +kernel⟩
theorem ok_law_square (T : Md K mg) (D : DefAt K mg "_law_square" "_law_square" (top 55) ["_law_n"]) (G_law_root : Ok P w K mg base 1 "_law_root" ["_law_n"] (spD K R_law_root)) : Ok P w K mg base 2 "_law_square" ["_law_n"] (spD K R_law_square) := by
  refine ok_pure D sc_law_square (fun ds d h => by obtain ⟨n, rfl, _⟩ := h; rfl) fun f cdv A outer s H E hr => ?_
  refine ⟨_, (pss_one (ps_ret (pe_and (pe_cmpR op_ge (pv 0) pe_int (nomark _)) (pe_one (pe_cmpR (op_eqDK (K := K) (by exact rfl) hr.units) (pe_op op_mulX (pe_callO G_law_root (hr.mono (by decide)) (by rfl) (pa_cons (pv 0) pa_nil)) (pe_callO G_law_root (hr.mono (by decide)) (by rfl) (pa_cons (pv 0) pa_nil))) (pv 0) (nomark _)))))), ?_⟩
  rintro _ _ ⟨n, rfl, h0, rfl⟩
  show SD K none _ [.d (.int n)] none _ _ _ _
  refine s_ret (d := .bool (isSqB n)) ?_ rfl
  refine ev_andV (by walk_at "ev") fun hh => ?_
  have h1 : 0 ≤ n := of_decide_eq_true hh
  have hq : Bd 40 (isq n) := by
    obtain ⟨s1, s2, _⟩ := isq_spec n h1
    refine Bd.of ?_
    have s3 : isq n < 2 ^ 33 := by
      rcases Int.lt_or_le (isq n) (2 ^ 33) with k | k
      · exact k
      · have := Int.mul_le_mul k k (by decide) (by omega)
        omega
    omega
  walk_at "ev"

local macro_rules | `(tactic| walk_at "call") => `(tactic| ((with_reducible apply i_law_square); all_goals (walk_at "pre")))

def R_law_kind (ds : List PyData) (d : PyData) : Prop := ∃ (g : Mth.F3), ds = [dF g] ∧ BdF 40 g ∧ Mth.dscF g ≤ 1900 ∧ d = .str (kn (Mth.dscF g))
theorem i_law_kind {g : Mth.F3} (hp0 : BdF 40 g) (hp1 : Mth.dscF g ≤ 1900) : R_law_kind [dF g] (.str (kn (Mth.dscF g))) := ⟨_, rfl, hp0, hp1, rfl⟩

theorem sc_law_kind : FnScope ["_law_form_here", "_law_d"] ["_law_form_here"] (defScope (top 56)) := ⟨rfl, rfl, rfl, by decide +kernel, rfl, by decide +kernel, by decide +kernel⟩
theorem ok_law_kind (T : Md K mg) (D : DefAt K mg "_law_kind" "_law_kind" (top 56) ["_law_form_here"]) (G_law_square : Ok P w K mg base 2 "_law_square" ["_law_n"] (spD K R_law_square)) : Ok P w K mg base 3 "_law_kind" ["_law_form_here"] (spD K R_law_kind) := by
  refine ok_pure D sc_law_kind (fun ds d h => by obtain ⟨g, rfl, _⟩ := h; rfl) fun f cdv A outer s H E hr => ?_
  refine ⟨_, (pss_cons (ps_set (i := 1) sc_law_kind.nd rfl (Or.inl rfl) (pe_op op_sub (pe_op op_mulX (pe_ix (ix_tupK (K := K) (by exact rfl)) (pv 0) pe_int (fun _ _ => rfl)) (pe_ix (ix_tupK (K := K) (by exact rfl)) (pv 0) pe_int (fun _ _ => rfl))) (pe_op op_mulX (pe_op op_mulX pe_int (pe_ix (ix_tupK (K := K) (by exact rfl)) (pv 0) pe_int (fun _ _ => rfl))) (pe_ix (ix_tupK (K := K) (by exact rfl)) (pv 0) pe_int (fun _ _ => rfl)))))
      (pss_cons (ps_if (pt_cmpR op_lt (pv 1) pe_int (nomark _)) (pss_one (ps_ret pe_str)) pss_nil)
      (pss_cons (ps_if (pt_cmpR (op_eqDK (K := K) (by exact rfl) hr.units) (pv 1) pe_int (nomark _)) (pss_one (ps_ret pe_str)) pss_nil)
      (pss_one (ps_ret (pe_ix (ix_listK (K := K) (by exact rfl)) (pe_lst (pa_cons pe_str (pa_cons pe_str pa_nil))) (pe_callTy call_int1 (by rfl) T.int PyProof.Rows.boot_int (pa_cons (pe_callO G_law_square (hr.mono (by decide)) (by rfl) (pa_cons (pv 1) pa_nil)) pa_nil)) (fun _ _ => rfl))))))), ?_⟩
  rintro _ _ ⟨g, rfl, h0, h1, rfl⟩
  show SD K none _ [.d (dF g), .no] none _ _ _ _
  have b1 : Bd 40 g.a := h0.a
  have b2 : Bd 40 g.b := h0.b
  have b3 : Bd 40 g.c := h0.c
  refine q_asg (d := .int (Mth.dscF g)) (by unfold Mth.dscF; walk_at "ev") ?_
  refine s_seq (M := fun e o => e = [.d (dF g), .d (.int (Mth.dscF g))] ∧ o = none ∧ ¬ Mth.dscF g < 0) (s_if (by walk_at "et") (fun hh => ?_) fun hh => ?_) ?_
  · refine s_ret (by walk_at "ev") ?_
    have := of_decide_eq_true hh
    unfold kn
    rw [if_pos this]
  · exact s_next ⟨rfl, rfl, of_decide_eq_false hh⟩
  rintro _ _ ⟨rfl, rfl, k1⟩
  refine s_seq (M := fun e o => e = [.d (dF g), .d (.int (Mth.dscF g))] ∧ o = none ∧ ¬ Mth.dscF g = 0) (s_if (by walk_at "et") (fun hh => ?_) fun hh => ?_) ?_
  · refine s_ret (by walk_at "ev") ?_
    have := of_decide_eq_true hh
    unfold kn
    rw [if_neg k1, if_pos this]
  · exact s_next ⟨rfl, rfl, of_decide_eq_false hh⟩
  rintro _ _ ⟨rfl, rfl, k2⟩
  refine s_ret (d := .str (kn (Mth.dscF g))) ?_ rfl
  have hk : atI [PyData.str "indefinite", PyData.str "split"] (if isSqB (Mth.dscF g) then 1 else 0) = some (.str (kn (Mth.dscF g))) := by
    unfold kn
    rw [if_neg k1, if_neg k2]
    cases isSqB (Mth.dscF g) <;> rfl
  exact ev_op (by walk_at "ev") (ev_cb (ea_cons (ev_call (ds := [.int (Mth.dscF g)]) (by walk_at "ea") (i_law_square h1)) ea_nil) rc_intB) (rv_ixL hk)

local macro_rules | `(tactic| walk_at "call") => `(tactic| ((with_reducible apply i_law_kind); all_goals (walk_at "pre")))

def R_law_is_reduced (ds : List PyData) (d : PyData) : Prop := ∃ (g : Mth.F3), ds = [dF g] ∧ Mth.Rt (isq (Mth.dscF g)) (Mth.dscF g) ∧ BdF 40 g ∧ d = .bool (decide (Mth.redI (isq (Mth.dscF g)) g))
theorem i_law_is_reduced {g : Mth.F3} (hp0 : Mth.Rt (isq (Mth.dscF g)) (Mth.dscF g)) (hp1 : BdF 40 g) : R_law_is_reduced [dF g] (.bool (decide (Mth.redI (isq (Mth.dscF g)) g))) := ⟨_, rfl, hp0, hp1, rfl⟩

theorem sc_law_is_reduced : FnScope ["_law_form_here", "_law_a", "_law_b", "_law_d", "_law_low", "_law_high"] ["_law_form_here"] (defScope (top 60)) := ⟨rfl, rfl, rfl, by decide +kernel, rfl, by decide +kernel, by decide +kernel⟩
theorem ok_law_is_reduced (T : Md K mg) (D : DefAt K mg "_law_is_reduced" "_law_is_reduced" (top 60) ["_law_form_here"])  : Ok P w K mg base 1 "_law_is_reduced" ["_law_form_here"] (spD K R_law_is_reduced) := by
  refine ok_pure D sc_law_is_reduced (fun ds d h => by obtain ⟨g, rfl, _⟩ := h; rfl) fun f cdv A outer s H E hr => ?_
  refine ⟨_, (pss_cons (ps_asg (pe_slice (sl_tupK (K := K) (by exact rfl)) (pv 0) po_none (po_some pe_int)) (pg_tupK (K := K) 2 (by exact rfl) rfl (pgs_cons (pg_name (i := 1) sc_law_is_reduced.nd rfl (Or.inl rfl)) (pgs_cons (pg_name (i := 2) sc_law_is_reduced.nd rfl (Or.inl rfl)) pgs_nil)) (by rfl) (by rfl)))
      (pss_cons (ps_set (i := 3) sc_law_is_reduced.nd rfl (Or.inl rfl) (pe_op op_sub (pe_op op_mulX (pe_ix (ix_tupK (K := K) (by exact rfl)) (pv 0) pe_int (fun _ _ => rfl)) (pe_ix (ix_tupK (K := K) (by exact rfl)) (pv 0) pe_int (fun _ _ => rfl))) (pe_op op_mulX (pe_op op_mulX pe_int (pe_ix (ix_tupK (K := K) (by exact rfl)) (pv 0) pe_int (fun _ _ => rfl))) (pe_ix (ix_tupK (K := K) (by exact rfl)) (pv 0) pe_int (fun _ _ => rfl)))))
      (pss_cons (ps_if (PW.pt (pw_or (pt_cmpR op_le (pv 2) pe_int (nomark _)) (pw_or1 (pt_cmpR op_ge (pe_op op_mulX (pv 2) (pv 2)) (pv 3) (nomark _))))) (pss_one (ps_ret pe_bl)) pss_nil)
      (pss_cons (ps_set (i := 4) sc_law_is_reduced.nd rfl (Or.inl rfl) (pe_op op_add (pe_op op_mulX pe_int (pe_callB call_abs (by rfl) T.abs (by decide +kernel) (pa_cons (pv 1) pa_nil))) (pv 2)))
      (pss_cons (ps_set (i := 5) sc_law_is_reduced.nd rfl (Or.inl rfl) (pe_op op_sub (pe_op op_mulX pe_int (pe_callB call_abs (by rfl) T.abs (by decide +kernel) (pa_cons (pv 1) pa_nil))) (pv 2)))
      (pss_one (ps_ret (pe_and (pe_cmpR op_gt (pe_op op_mulX (pv 4) (pv 4)) (pv 3) (nomark _)) (pe_one (pe_or (pe_cmpR op_lt (pv 5) pe_int (nomark _)) (pe_one (pe_cmpR op_lt (pe_op op_mulX (pv 5) (pv 5)) (pv 3) (nomark _))))))))))))), ?_⟩
  rintro _ _ ⟨g, rfl, h0, h1, rfl⟩
  show SD K none _ [.d (dF g), .no, .no, .no, .no, .no] none _ _ _ _
  have b1 : Bd 40 g.a := h1.a
  have b2 : Bd 40 g.b := h1.b
  have b3 : Bd 40 g.c := h1.c
  have b4 : Bd 40 (g.a.natAbs : Int) := by
    have h : g.a.natAbs < 2 ^ 40 := b1
    exact Bd.of (by omega)
  have lr := Mth.lawred_iff h0
  refine q_asgG (by walk_at "ev") (by walk_at "tg") ?_
  refine q_asg (d := .int (Mth.dscF g)) (by unfold Mth.dscF; walk_at "ev") ?_
  refine s_seq (M := fun e o => e = [.d (dF g), .d (.int g.a), .d (.int g.b), .d (.int (Mth.dscF g)), .no, .no] ∧ o = none ∧ ¬ (g.b ≤ 0 ∨ Mth.dscF g ≤ g.b * g.b)) (s_if (b := decide (g.b ≤ 0) || decide (Mth.dscF g ≤ g.b * g.b)) (by walk_at "et") (fun hh => ?_) fun hh => ?_) ?_
  · refine s_ret (by walk_at "ev") ?_
    congr 1
    symm
    refine decide_eq_false fun z => (lr.mpr z).1 ?_
    simpa using hh
  · refine s_next ⟨rfl, rfl, ?_⟩
    simp at hh
    omega
  rintro _ _ ⟨rfl, rfl, hn⟩
  refine q_asg (by walk_at "ev") ?_
  refine q_asg (by walk_at "ev") ?_
  refine s_ret (d := .bool (decide (Mth.dscF g < (2 * (g.a.natAbs : Int) + g.b) * (2 * (g.a.natAbs : Int) + g.b)) && (decide (2 * (g.a.natAbs : Int) - g.b < 0) || decide ((2 * (g.a.natAbs : Int) - g.b) * (2 * (g.a.natAbs : Int) - g.b) < Mth.dscF g)))) (by walk_at "ev") ?_
  congr 1
  rw [Bool.eq_iff_iff]
  simp only [Bool.and_eq_true, Bool.or_eq_true, decide_eq_true_eq]
  exact ⟨fun z => lr.mp ⟨hn, z⟩, fun z => (lr.mpr z).2⟩

local macro_rules | `(tactic| walk_at "call") => `(tactic| ((with_reducible apply i_law_is_reduced); all_goals (walk_at "pre")))

def R_law_neighbour (ds : List PyData) (d : PyData) : Prop := ∃ (g : Mth.F3), ds = [dF g] ∧ Mth.Rt (isq (Mth.dscF g)) (Mth.dscF g) ∧ BdF 40 g ∧ (g.c.natAbs : Int) ≤ isq (Mth.dscF g) ∧ d = dF (Mth.stI (isq (Mth.dscF g)) g)
theorem i_law_neighbour {g : Mth.F3} (hp0 : Mth.Rt (isq (Mth.dscF g)) (Mth.dscF g)) (hp1 : BdF 40 g) (hp2 : (g.c.natAbs : Int) ≤ isq (Mth.dscF g)) : R_law_neighbour [dF g] (dF (Mth.stI (isq (Mth.dscF g)) g)) := ⟨_, rfl, hp0, hp1, hp2, rfl⟩

theorem sc_law_neighbour : FnScope ["_law_form_here", "_law_a", "_law_b", "_law_c", "_law_d", "_law_root_here", "_law_middle"] ["_law_form_here"] (defScope (top 61)) := ⟨rfl, rfl, rfl, by decide +kernel, rfl, by decide +kernel, by decide +kernel⟩
theorem ok_law_neighbour (T : Md K mg) (D : DefAt K mg "_law_neighbour" "_law_neighbour" (top 61) ["_law_form_here"]) (G_law_root : Ok P w K mg base 1 "_law_root" ["_law_n"] (spD K R_law_root)) : Ok P w K mg base 2 "_law_neighbour" ["_law_form_here"] (spD K R_law_neighbour) := by
  refine ok_pure D sc_law_neighbour (fun ds d h => by obtain ⟨g, rfl, _⟩ := h; rfl) fun f cdv A outer s H E hr => ?_
  refine ⟨_, (pss_cons (ps_asg (pv 0) (pg_tupK (K := K) 3 (by exact rfl) rfl (pgs_cons (pg_name (i := 1) sc_law_neighbour.nd rfl (Or.inl rfl)) (pgs_cons (pg_name (i := 2) sc_law_neighbour.nd rfl (Or.inl rfl)) (pgs_cons (pg_name (i := 3) sc_law_neighbour.nd rfl (Or.inl rfl)) pgs_nil))) (by rfl) (by rfl)))
      (pss_cons (ps_set (i := 4) sc_law_neighbour.nd rfl (Or.inl rfl) (pe_op op_sub (pe_op op_mulX (pv 2) (pv 2)) (pe_op op_mulX (pe_op op_mulX pe_int (pv 1)) (pv 3))))
      (pss_cons (ps_set (i := 5) sc_law_neighbour.nd rfl (Or.inl rfl) (pe_callO G_law_root (hr.mono (by decide)) (by rfl) (pa_cons (pv 4) pa_nil)))
      (pss_cons (ps_set (i := 6) sc_law_neighbour.nd rfl (Or.inl rfl) (pe_op op_sub (pv 5) (pe_op op_modN (pe_op op_add (pv 5) (pv 2)) (pe_op op_mulX pe_int (pe_callB call_abs (by rfl) T.abs (by decide +kernel) (pa_cons (pv 3) pa_nil))))))
      (pss_one (ps_ret (pe_tup (pa_cons (pv 3) (pa_cons (pv 6) (pa_cons (pe_op op_fdX (pe_op op_sub (pe_op op_mulX (pv 6) (pv 6)) (pv 4)) (pe_op op_mulX pe_int (pv 3))) pa_nil)))))))))), ?_⟩
  rintro _ _ ⟨g, rfl, h0, h1, h2, rfl⟩
  show SD K none _ [.d (dF g), .no, .no, .no, .no, .no, .no] none _ _ _ _
  have b1 : Bd 40 g.a := h1.a
  have b2 : Bd 40 g.b := h1.b
  have b3 : Bd 40 g.c := h1.c
  have hc := h0.c0
  have z1 : 2 * (g.c.natAbs : Int) ≠ 0 := by omega
  have z2 : 4 * g.c ≠ 0 := by omega
  have b4 : Bd 40 (g.c.natAbs : Int) := by
    have h : g.c.natAbs < 2 ^ 40 := b3
    exact Bd.of (by omega)
  obtain ⟨k1, k2, k3⟩ := rt_range h0
  have ht : Mth.topI (isq (Mth.dscF g)) g = isq (Mth.dscF g) := if_neg (by omega)
  have b5 : Bd 40 (Mth.midI (isq (Mth.dscF g)) g) := by
    have := (Mth.st_small h0 h2).1
    have := h0.s36
    exact Bd.of (by omega)
  refine q_asgG (by walk_at "ev") (by walk_at "tg") ?_
  refine q_asg (d := .int (Mth.dscF g)) (by unfold Mth.dscF; walk_at "ev") ?_
  refine q_asg (d := .int (isq (Mth.dscF g))) (ev_call (ds := [.int (Mth.dscF g)]) (by walk_at "ea") (i_law_root k1 (by omega))) ?_
  refine q_asg (d := .int (Mth.midI (isq (Mth.dscF g)) g)) ?_ ?_
  · unfold Mth.midI
    rw [ht]
    walk_at "ev"
  refine s_ret (d := fm g.c (Mth.midI (isq (Mth.dscF g)) g) ((Mth.midI (isq (Mth.dscF g)) g * Mth.midI (isq (Mth.dscF g)) g - Mth.dscF g).fdiv (4 * g.c))) (by walk_at "ev") ?_
  rw [Mth.st_eq hc]

local macro_rules | `(tactic| walk_at "call") => `(tactic| ((with_reducible apply i_law_neighbour); all_goals (walk_at "pre")))

end
end Kx

-- K9
set_option maxHeartbeats 2000000
namespace Kx
open PySem PySem.Spec PyProof.Rows L2
local macro_rules | `(tactic| walk_at "bd") => `(tactic| first | assumption | exact Bd.lit (by decide) | ((with_reducible apply Bd.mul) <;> walk_at "bd") | ((with_reducible apply Bd.add) <;> walk_at "bd") | ((with_reducible apply Bd.sub) <;> walk_at "bd") | ((with_reducible apply Bd.neg); walk_at "bd"))
local macro_rules | `(tactic| walk_at "mul") => `(tactic| first | assumption | exact mulok_l (Bd.mono (by walk_at "bd") (by omega)) | exact mulok_r (Bd.mono (by walk_at "bd") (by omega)) | ((with_reducible apply mulok); (focus walk_at "bd"); (focus walk_at "bd"); omega))
local macro_rules | `(tactic| walk_at "cond") => `(tactic| first | assumption | walk_at "mul" | exact cfd (by first | assumption | omega) (by walk_at "bd") (by omega) | omega | decide)
local macro_rules | `(tactic| walk_at "rv") => `(tactic| first | with_reducible exact rv_I0 | with_reducible exact rv_B0 | with_reducible exact rv_eqI | with_reducible exact rv_neI | with_reducible exact rv_eqF | with_reducible exact rv_neF | with_reducible exact rv_eqS | ((with_reducible apply rv_I); walk_at "cond") | ((with_reducible apply rv_ixT); exact rfl) | ((with_reducible apply rv_ixL); exact rfl) | with_reducible exact rv_isN | with_reducible exact rv_notN | exact rv_cat (Nat.le_of_ble_eq_true rfl))
local macro_rules | `(tactic| walk_at "ev") => `(tactic| first
  | ((with_reducible apply ev_var); exact rfl) | with_reducible exact ev_int | with_reducible exact ev_bl | with_reducible exact ev_str | with_reducible exact ev_non | exact ev_quad (by assumption)
  | ((with_reducible apply ev_op); (focus walk_at "ev"); (focus walk_at "ev"); (focus walk_at "rv"))
  | ((with_reducible apply ev_un); (focus walk_at "ev"); with_reducible exact ru_I)
  | ((with_reducible apply ev_tup); (focus walk_at "ea"); exact Nat.le_of_ble_eq_true rfl)
  | ((with_reducible apply ev_lst); (focus walk_at "ea"); exact Nat.le_of_ble_eq_true rfl)
  | ((with_reducible apply ev_call); (focus walk_at "ea"); (focus walk_at "call"))
  | ((with_reducible apply ev_cb); (focus walk_at "ea"); (focus walk_at "rc"))
  | ((with_reducible apply ev_andV); (focus walk_at "ev"); (intro hh_; (focus walk_at "ev")))
  | ((with_reducible apply ev_orV); (focus walk_at "ev"); (intro hh_; (focus walk_at "ev")))
  | ((with_reducible apply ev_chain); (focus walk_at "ev"); (focus walk_at "ev"); (focus walk_at "rv"); (intro hh_; (focus walk_at "ev")); (intro hh_; (focus walk_at "rv")))
  | ((with_reducible apply ev_notV); walk_at "ev")
  | ((with_reducible apply ev_cut2); walk_at "ev"))
local macro_rules | `(tactic| walk_at "ea") => `(tactic| first | with_reducible exact ea_nil | ((with_reducible apply ea_cons); (focus walk_at "ev"); (focus walk_at "ea")))
local macro_rules | `(tactic| walk_at "rc") => `(tactic| first | with_reducible exact rc_abs | with_reducible exact rc_intI | with_reducible exact rc_intB | with_reducible exact rc_lenL | with_reducible exact rc_tupOf | exact rc_isq (by assumption) (by assumption) | exact rc_isq (by omega) (by omega))
local macro_rules | `(tactic| walk_at "et") => `(tactic| first
  | ((with_reducible apply et_test); walk_at "ev")
  | ((with_reducible apply et_B); walk_at "ev")
  | ((with_reducible apply et_and); (focus walk_at "et"); (intro hh_; (focus walk_at "et")))
  | ((with_reducible apply et_or); (focus walk_at "et"); (intro hh_; (focus walk_at "et")))
  | ((with_reducible apply et_not); walk_at "et"))
local macro_rules | `(tactic| walk_at "tg") => `(tactic| first | with_reducible exact tg_name | ((with_reducible apply tg_tup); (focus walk_at "tgs"); exact rfl) | ((with_reducible apply tg_unl); (focus walk_at "tgs"); exact rfl))
local macro_rules | `(tactic| walk_at "tgs") => `(tactic| first | with_reducible exact tg_nil | ((with_reducible apply tg_cons); (focus walk_at "tg"); (focus walk_at "tgs")))
local macro_rules | `(tactic| walk_at "pre") => `(tactic| first | assumption | walk_at "bd" | exact Bd.mono (by walk_at "bd") (by omega) | omega | decide)

local macro_rules | `(tactic| walk_at "call") => `(tactic| ((with_reducible apply i_worth); all_goals (walk_at "pre")))

local macro_rules | `(tactic| walk_at "call") => `(tactic| ((with_reducible apply i_act); all_goals (walk_at "pre")))

local macro_rules | `(tactic| walk_at "call") => `(tactic| ((with_reducible apply i_discriminant); all_goals (walk_at "pre")))

local macro_rules | `(tactic| walk_at "call") => `(tactic| ((with_reducible apply i_scaled); all_goals (walk_at "pre")))

local macro_rules | `(tactic| walk_at "call") => `(tactic| ((with_reducible apply i_divided); all_goals (walk_at "pre")))

local macro_rules | `(tactic| walk_at "call") => `(tactic| ((with_reducible apply i_multiply); all_goals (walk_at "pre")))

local macro_rules | `(tactic| walk_at "call") => `(tactic| ((with_reducible apply i_determinant); all_goals (walk_at "pre")))

local macro_rules | `(tactic| walk_at "call") => `(tactic| ((with_reducible apply i_inverse); all_goals (walk_at "pre")))

local macro_rules | `(tactic| walk_at "call") => `(tactic| ((with_reducible apply i_floor_root); all_goals (walk_at "pre")))

local macro_rules | `(tactic| walk_at "call") => `(tactic| ((with_reducible apply i_is_square); all_goals (walk_at "pre")))

local macro_rules | `(tactic| walk_at "call") => `(tactic| ((with_reducible apply i_kind); all_goals (walk_at "pre")))

local macro_rules | `(tactic| walk_at "call") => `(tactic| ((with_reducible apply i_is_reduced_definite)))


local macro_rules | `(tactic| walk_at "call") => `(tactic| ((with_reducible apply i_measure); all_goals (walk_at "pre")))

local macro_rules | `(tactic| walk_at "call") => `(tactic| ((with_reducible apply i_content); all_goals (walk_at "pre")))

local macro_rules | `(tactic| walk_at "call") => `(tactic| ((with_reducible apply i_is_reduced_indefinite); all_goals (walk_at "pre")))

local macro_rules | `(tactic| walk_at "call") => `(tactic| ((with_reducible apply i_step_of); all_goals (walk_at "pre")))

local macro_rules | `(tactic| walk_at "call") => `(tactic| ((with_reducible apply i_law_root); all_goals (walk_at "pre")))

local macro_rules | `(tactic| walk_at "call") => `(tactic| ((with_reducible apply i_law_square); all_goals (walk_at "pre")))

local macro_rules | `(tactic| walk_at "call") => `(tactic| ((with_reducible apply i_law_kind); all_goals (walk_at "pre")))

local macro_rules | `(tactic| walk_at "call") => `(tactic| ((with_reducible apply i_law_is_reduced); all_goals (walk_at "pre")))

local macro_rules | `(tactic| walk_at "call") => `(tactic| ((with_reducible apply i_law_neighbour); all_goals (walk_at "pre")))

local macro_rules | `(tactic| walk_at "call") => `(tactic| ((with_reducible apply i_discF); assumption))
theorem i_redF {g : Mth.F3} {D : Int} (hd : Mth.dscF g = D) (r : Mth.Rt (isq D) D) (h : BdF 40 g) : R_law_is_reduced [dF g] (.bool (decide (Mth.redI (isq D) g))) := by
  subst hd
  exact i_law_is_reduced r h
theorem i_neiF {g : Mth.F3} {D : Int} (hd : Mth.dscF g = D) (r : Mth.Rt (isq D) D) (h : BdF 40 g) (hc : (g.c.natAbs : Int) ≤ isq D) : R_law_neighbour [dF g] (dF (Mth.stI (isq D) g)) := by
  subst hd
  exact i_law_neighbour r h hc

section
variable {P : Program} {w : World} {K : Fg} {mg : Str → Option Value} {base : Heap}

def Pre_law_ring (ds : List PyData) : Prop := ∃ (g : Mth.F3), ds = [dF g] ∧ RtF g ∧ BdF 40 g ∧ Mth.redI (sI g) g
def Post_law_ring (ds : List PyData) (d : PyData) : Prop := ∀ (g : Mth.F3), ds = [dF g] → ∃ n, Mth.IsPer (sI g) g n ∧ n ≤ 2701 ∧ d = .list ((Mth.ringI (sI g) g n).map fun f => dF f)

def LrgI (g : Mth.F3) (n : Nat) (i : Nat) (e : List Sl) (o : OS) : Prop := ∃ (x y : Sl), e = [.d (dF g), .own, x, y] ∧ o = some ((Mth.ringI (sI g) g (i + 1)).map fun f => dF f) ∧ i < n
theorem sc_law_ring : FnScope ["_law_form_here", "_law_found", "_law_k", "_law_other_here"] ["_law_form_here"] (defScope (top 62)) := ⟨rfl, rfl, rfl, by decide +kernel, rfl, by decide +kernel, by decide +kernel⟩
theorem ok_law_ring (T : Md K mg) (D : DefAt K mg "_law_ring" "_law_ring" (top 62) ["_law_form_here"]) (G_law_neighbour : Ok P w K mg base 2 "_law_neighbour" ["_law_form_here"] (spD K R_law_neighbour)) : Ok P w K mg base 3 "_law_ring" ["_law_form_here"] (spP K Pre_law_ring Post_law_ring) := by
  refine ok_rel D sc_law_ring (fun ds h => by obtain ⟨g, rfl, _⟩ := h; rfl) fun f cdv A outer s H E hr => ?_
  refine ⟨_, (pss_cons (ps_set (i := 1) sc_law_ring.nd rfl (Or.inl rfl) (pe_lst (pa_cons (pv 0) pa_nil)))
      (pss_cons (ps_for PassesOwn.never rfl (pi_range1 (by rfl) T.range (pa_cons pe_int pa_nil)) (pg_name (i := 2) sc_law_ring.nd rfl (Or.inl rfl)) (pss_cons (ps_set (i := 3) sc_law_ring.nd rfl (Or.inl rfl) (pe_callO G_law_neighbour (hr.mono (by decide)) (by rfl) (pa_cons (pe_ix (ix_listK (K := K) (by exact rfl)) (pv 1) (pe_op op_sub (pe_callB (cr_lenK (K := K) (by exact rfl)) (by rfl) T.len PySem.boot_len (pa_cons (pv 1) pa_nil)) pe_int) (fun _ _ => rfl)) pa_nil)))
      (pss_cons (ps_if (pt_cmpR (op_eqDK (K := K) (by exact rfl) hr.units) (pv 3) (pv 0) (nomark _)) (pss_one (ps_ret (pv 1))) pss_nil)
      (pss_one (ps_expr (pe_appK (K := K) (by exact rfl) (pv 1) (pv 3)))))))
      (pss_one (ps_ret (pv 1))))), ?_⟩
  rintro _ ⟨g, rfl, h0, h1, h2⟩
  show SD K none _ [.d (dF g), .no, .no, .no] none _ _ _ _
  obtain ⟨n, per, nle⟩ := Mth.per_ex h0 h2
  refine s_seq1 (e2 := [.d (dF g), .own, .no, .no]) (o2 := some ((Mth.ringI (sI g) g 1).map fun f => dF f)) (s_new rfl (ds := [dF g]) (ea_cons (by walk_at "ev") ea_nil) (Nat.le_of_ble_eq_true rfl) ⟨rfl, rfl⟩) ?_
  refine s_seq (M := fun e o => LrgI g n 3000 e o) (s_forR (LrgI g n) ((by walk_at "ea" : EvA K _ _ _ [.int 3000]).toR ⟨3000, rfl, by decide, by decide, ⟨_, _, rfl, rfl, per.1⟩, ?_, fun e o h => h⟩)) ?_
  · rintro i _ _ hi ⟨x, y, rfl, rfl, hin⟩
    have hd := Mth.it_dsc (sI g) g i
    have rt := Mth.it_rt h0 i
    have bf := it_bdF h0 h1 i
    have red := Mth.red_it h0 h2 i
    have hc := Mth.red_c rt red
    have hlen : ((Mth.ringI (sI g) g (i + 1)).map fun f => dF f).length = i + 1 := by
      simp [Mth.ringI]
    have hat : atI ((Mth.ringI (sI g) g (i + 1)).map fun f => dF f) ((((Mth.ringI (sI g) g (i + 1)).map fun f => dF f).length : Int) - 1) = some (dF (Mth.itI (sI g) g i)) := by
      rw [hlen]
      have e : ((i + 1 : Nat) : Int) - 1 = (i : Int) := by omega
      rw [e]
      refine atI_nat ?_
      simp [Mth.ringI]
    refine q_asg (ev_call (ds := [dF (Mth.itI (sI g) g i)]) (ea_cons (ev_ixOwn rfl (ev_op (ev_lenOwn rfl) ev_int rv_I0) hat) ea_nil) (i_neiF hd h0 bf hc)) ?_
    refine s_seq (M := fun e o => e = [.d (dF g), .own, .d (.int i), .d (dF (Mth.itI (sI g) g (i + 1)))] ∧ o = some ((Mth.ringI (sI g) g (i + 1)).map fun f => dF f) ∧ Mth.itI (sI g) g (i + 1) ≠ g) (s_if (b := decide ((Mth.itI (sI g) g (i + 1)).a = g.a ∧ (Mth.itI (sI g) g (i + 1)).b = g.b ∧ (Mth.itI (sI g) g (i + 1)).c = g.c)) (et_test (ev_op (ev_var rfl) (ev_var rfl) rv_eqF)) (fun hh => ?_) fun hh => ?_) ?_
    · have he : Mth.itI (sI g) g (i + 1) = g := by
        have := of_decide_eq_true hh
        exact Mth.F3.ext this.1 this.2.1 this.2.2
      refine s_retOwn rfl ?_
      intro g' hg
      have e5 := dF1 hg
      subst e5
      have hn : n = i + 1 := by
        rcases Nat.lt_or_ge (i + 1) n with q | q
        · exact absurd he (per.2.2 (i + 1) (by omega) q)
        · omega
      subst hn
      exact ⟨_, per, nle, rfl⟩
    · refine s_next ⟨rfl, rfl, fun z => ?_⟩
      simp [z] at hh
    rintro _ _ ⟨rfl, rfl, hne⟩
    refine s_app rfl (d := dF (Mth.itI (sI g) g (i + 1))) (ev_var rfl) (by rw [hlen]; omega) ⟨_, _, rfl, ?_, ?_⟩
    · rw [Mth.ring_succ (sI g) g (i + 1), List.map_append]
      rfl
    · rcases Nat.lt_or_ge (i + 1) n with q | q
      · exact q
      · have : i + 1 = n := by omega
        rw [this] at hne
        exact absurd per.2.1 hne
  rintro _ _ ⟨x, y, rfl, rfl, hin⟩
  exfalso
  omega


def Pre_law_lowered (ds : List PyData) : Prop := ∃ (g : Mth.F3), ds = [dF g] ∧ RtF g ∧ BdF 40 g
def Post_law_lowered (ds : List PyData) (d : PyData) : Prop := ∀ (g : Mth.F3), ds = [dF g] → ∃ f, d = dF f ∧ Mth.LowI (sI g) g f

def LlwI (g : Mth.F3) (i : Nat) (e : List Sl) (o : OS) : Prop := ∃ (x y z : Sl), e = [.d (dF g), .d (.int (Mth.itI (sI g) g i).a), .d (.int (Mth.itI (sI g) g i).b), .d (.int (Mth.itI (sI g) g i).c), .d (.int (Mth.dscF g)), .d (.int (sI g)), x, y, z] ∧ o = none ∧
  (∀ j, j < i → ¬ Mth.redI (sI g) (Mth.itI (sI g) g j)) ∧ Mth.muI (sI g) (Mth.itI (sI g) g i) + i ≤ 43
theorem sc_law_lowered : FnScope ["_law_form_here", "_law_a", "_law_b", "_law_c", "_law_d", "_law_root_here", "_law_k", "_law_top", "_law_middle"] ["_law_form_here"] (defScope (top 64)) := ⟨rfl, rfl, rfl, by decide +kernel, rfl, by decide +kernel, by decide +kernel⟩
theorem ok_law_lowered (T : Md K mg) (D : DefAt K mg "_law_lowered" "_law_lowered" (top 64) ["_law_form_here"]) (G_law_is_reduced : Ok P w K mg base 1 "_law_is_reduced" ["_law_form_here"] (spD K R_law_is_reduced)) (G_law_root : Ok P w K mg base 1 "_law_root" ["_law_n"] (spD K R_law_root)) : Ok P w K mg base 2 "_law_lowered" ["_law_form_here"] (spP K Pre_law_lowered Post_law_lowered) := by
  refine ok_rel D sc_law_lowered (fun ds h => by obtain ⟨g, rfl, _⟩ := h; rfl) fun f cdv A outer s H E hr => ?_
  refine ⟨_, (pss_cons (ps_asg (pv 0) (pg_tupK (K := K) 3 (by exact rfl) rfl (pgs_cons (pg_name (i := 1) sc_law_lowered.nd rfl (Or.inl rfl)) (pgs_cons (pg_name (i := 2) sc_law_lowered.nd rfl (Or.inl rfl)) (pgs_cons (pg_name (i := 3) sc_law_lowered.nd rfl (Or.inl rfl)) pgs_nil))) (by rfl) (by rfl)))
      (pss_cons (ps_set (i := 4) sc_law_lowered.nd rfl (Or.inl rfl) (pe_op op_sub (pe_op op_mulX (pv 2) (pv 2)) (pe_op op_mulX (pe_op op_mulX pe_int (pv 1)) (pv 3))))
      (pss_cons (ps_set (i := 5) sc_law_lowered.nd rfl (Or.inl rfl) (pe_callO G_law_root (hr.mono (by decide)) (by rfl) (pa_cons (pv 4) pa_nil)))
      (pss_cons (ps_for PassesOwn.never rfl (pi_range1 (by rfl) T.range (pa_cons pe_int pa_nil)) (pg_name (i := 6) sc_law_lowered.nd rfl (Or.inl rfl)) (pss_cons (ps_if (pt_val (pe_callO G_law_is_reduced (hr.mono (by decide)) (by rfl) (pa_cons (pe_tup (pa_cons (pv 1) (pa_cons (pv 2) (pa_cons (pv 3) pa_nil)))) pa_nil))) (pss_one (ps_ret (pe_tup (pa_cons (pv 1) (pa_cons (pv 2) (pa_cons (pv 3) pa_nil)))))) pss_nil)
      (pss_cons (ps_set (i := 7) sc_law_lowered.nd rfl (Or.inl rfl) (pe_ix (ix_listK (K := K) (by exact rfl)) (pe_lst (pa_cons (pv 5) (pa_cons (pe_callB call_abs (by rfl) T.abs (by decide +kernel) (pa_cons (pv 3) pa_nil)) pa_nil))) (pe_callTy call_int1 (by rfl) T.int PyProof.Rows.boot_int (pa_cons (pe_cmpR op_gt (pe_callB call_abs (by rfl) T.abs (by decide +kernel) (pa_cons (pv 3) pa_nil)) (pv 5) (nomark _)) pa_nil)) (fun _ _ => rfl)))
      (pss_cons (ps_set (i := 8) sc_law_lowered.nd rfl (Or.inl rfl) (pe_op op_sub (pv 7) (pe_op op_modN (pe_op op_add (pv 7) (pv 2)) (pe_op op_mulX pe_int (pe_callB call_abs (by rfl) T.abs (by decide +kernel) (pa_cons (pv 3) pa_nil))))))
      (pss_one (ps_par3 (i := 1) (j := 2) (l := 3) (by rfl) sc_law_lowered.nd rfl rfl rfl (by decide) (by decide) (by decide) rfl rfl rfl (pa_cons (pv 3) (pa_cons (pv 8) (pa_cons (pe_op op_fdX (pe_op op_sub (pe_op op_mulX (pv 8) (pv 8)) (pv 4)) (pe_op op_mulX pe_int (pv 3))) pa_nil))) (by rfl)))))))
      (pss_one (ps_ret (pe_tup (pa_cons (pv 1) (pa_cons (pv 2) (pa_cons (pv 3) pa_nil)))))))))), ?_⟩
  rintro _ ⟨g, rfl, h0, h1⟩
  show SD K none _ [.d (dF g), .no, .no, .no, .no, .no, .no, .no, .no] none _ _ _ _
  obtain ⟨k1, k2, k3⟩ := rt_range h0
  have b1 : Bd 40 g.a := h1.a
  have b2 : Bd 40 g.b := h1.b
  have b3 : Bd 40 g.c := h1.c
  have hmu := Mth.muI_le (s := sI g) (show g.c.natAbs < 2 ^ 40 from h1.c)
  refine q_asgG (by walk_at "ev") (by walk_at "tg") ?_
  refine q_asg (d := .int (Mth.dscF g)) (by unfold Mth.dscF; walk_at "ev") ?_
  refine q_asg (d := .int (sI g)) (ev_call (ds := [.int (Mth.dscF g)]) (by walk_at "ea") (i_law_root k1 (by omega))) ?_
  refine s_seq (M := fun e o => LlwI g 400 e o) (s_forR (LlwI g) ((by walk_at "ea" : EvA K _ _ _ [.int 400]).toR ⟨400, rfl, by decide, by decide, ⟨_, _, _, rfl, rfl, fun i hi => absurd hi (Nat.not_lt_zero i), by show Mth.muI (sI g) g + 0 ≤ _; omega⟩, ?_, fun e o h => h⟩)) ?_
  · rintro i _ _ hi ⟨x, y, z, rfl, rfl, e1, e2⟩
    have hd := Mth.it_dsc (sI g) g i
    have rt := Mth.it_rt h0 i
    have bf := it_bdF h0 h1 i
    have ef : Mth.itI (sI g) g (i + 1) = Mth.stI (sI g) (Mth.itI (sI g) g i) := rfl
    have hx := Mth.st_eq (s := sI g) rt.c0
    generalize hf : Mth.itI (sI g) g i = f at *
    have c1 : Bd 40 f.a := bf.a
    have c2 : Bd 40 f.b := bf.b
    have c3 : Bd 40 f.c := bf.c
    have hc := rt.c0
    have z1 : 2 * (f.c.natAbs : Int) ≠ 0 := by omega
    have z2 : 4 * f.c ≠ 0 := by omega
    have c4 : Bd 40 (f.c.natAbs : Int) := by
      have h : f.c.natAbs < 2 ^ 40 := c3
      exact Bd.of (by omega)
    have c5 : Bd 40 (Mth.midI (sI g) f) := by
      have := (st_bdF rt bf).1.b
      rw [(Mth.st_spec (s := sI g) hc).2.1] at this
      exact this
    refine s_seq (M := fun e o => e = [.d (dF g), .d (.int f.a), .d (.int f.b), .d (.int f.c), .d (.int (Mth.dscF g)), .d (.int (sI g)), .d (.int i), y, z] ∧ o = none ∧ ¬ Mth.redI (sI g) f) (s_if (b := decide (Mth.redI (sI g) f)) (et_B (ev_call (ds := [dF f]) (by walk_at "ea") (i_redF hd h0 bf))) (fun hh => ?_) fun hh => ?_) ?_
    · have hr := of_decide_eq_true hh
      refine s_ret (d := dF f) (by walk_at "ev") ?_
      intro g' hg
      have e5 := dF1 hg
      subst e5
      exact ⟨f, rfl, i, hf.symm, hr, e1⟩
    · exact s_next ⟨rfl, rfl, of_decide_eq_false hh⟩
    rintro _ _ ⟨rfl, rfl, hr⟩
    have ht : atI [PyData.int (sI g), PyData.int (f.c.natAbs : Int)] (if decide (sI g < (f.c.natAbs : Int)) then 1 else 0) = some (.int (Mth.topI (sI g) f)) := by
      unfold Mth.topI
      by_cases q : sI g < (f.c.natAbs : Int)
      · rw [if_pos q, decide_eq_true q]
        rfl
      · rw [if_neg q, decide_eq_false q]
        rfl
    refine q_asg (d := .int (Mth.topI (sI g) f)) (ev_op (by walk_at "ev") (by walk_at "ev") (rv_ixL ht)) ?_
    refine q_asg (d := .int (Mth.midI (sI g) f)) (by unfold Mth.midI; walk_at "ev") ?_
    refine s_par3 (x := .int f.c) (y := .int (Mth.midI (sI g) f)) (z := .int ((Mth.midI (sI g) f * Mth.midI (sI g) f - Mth.dscF g).fdiv (4 * f.c))) (by walk_at "ea") ⟨.d (.int (i : Int)), .d (.int (Mth.topI (sI g) f)), .d (.int (Mth.midI (sI g) f)), ?_, rfl, fun j hj => ?_, ?_⟩
    · rw [ef, hx, hd]
      rfl
    · by_cases q : j = i
      · subst q
        rw [hf]
        exact hr
      · exact e1 j (by omega)
    · rw [ef]
      have := Mth.muI_step rt hr
      omega
  rintro _ _ ⟨x, y, z, rfl, rfl, e1, e2⟩
  exfalso
  omega


end
end Kx

-- K10
set_option maxHeartbeats 2000000
namespace Kx
open PySem PySem.Spec PyProof.Rows L2
local macro_rules | `(tactic| walk_at "bd") => `(tactic| first | assumption | exact Bd.lit (by decide) | ((with_reducible apply Bd.mul) <;> walk_at "bd") | ((with_reducible apply Bd.add) <;> walk_at "bd") | ((with_reducible apply Bd.sub) <;> walk_at "bd") | ((with_reducible apply Bd.neg); walk_at "bd"))
local macro_rules | `(tactic| walk_at "mul") => `(tactic| first | assumption | exact mulok_l (Bd.mono (by walk_at "bd") (by omega)) | exact mulok_r (Bd.mono (by walk_at "bd") (by omega)) | ((with_reducible apply mulok); (focus walk_at "bd"); (focus walk_at "bd"); omega))
local macro_rules | `(tactic| walk_at "cond") => `(tactic| first | assumption | walk_at "mul" | exact cfd (by first | assumption | omega) (by walk_at "bd") (by omega) | omega | decide)
local macro_rules | `(tactic| walk_at "rv") => `(tactic| first | with_reducible exact rv_I0 | with_reducible exact rv_B0 | with_reducible exact rv_eqI | with_reducible exact rv_neI | with_reducible exact rv_eqF | with_reducible exact rv_neF | with_reducible exact rv_eqS | ((with_reducible apply rv_I); walk_at "cond") | ((with_reducible apply rv_ixT); exact rfl) | ((with_reducible apply rv_ixL); exact rfl) | with_reducible exact rv_isN | with_reducible exact rv_notN | exact rv_cat (Nat.le_of_ble_eq_true rfl))
local macro_rules | `(tactic| walk_at "ev") => `(tactic| first
  | ((with_reducible apply ev_var); exact rfl) | with_reducible exact ev_int | with_reducible exact ev_bl | with_reducible exact ev_str | with_reducible exact ev_non | exact ev_quad (by assumption)
  | ((with_reducible apply ev_op); (focus walk_at "ev"); (focus walk_at "ev"); (focus walk_at "rv"))
  | ((with_reducible apply ev_un); (focus walk_at "ev"); with_reducible exact ru_I)
  | ((with_reducible apply ev_tup); (focus walk_at "ea"); exact Nat.le_of_ble_eq_true rfl)
  | ((with_reducible apply ev_lst); (focus walk_at "ea"); exact Nat.le_of_ble_eq_true rfl)
  | ((with_reducible apply ev_call); (focus walk_at "ea"); (focus walk_at "call"))
  | ((with_reducible apply ev_cb); (focus walk_at "ea"); (focus walk_at "rc"))
  | ((with_reducible apply ev_andV); (focus walk_at "ev"); (intro hh_; (focus walk_at "ev")))
  | ((with_reducible apply ev_orV); (focus walk_at "ev"); (intro hh_; (focus walk_at "ev")))
  | ((with_reducible apply ev_chain); (focus walk_at "ev"); (focus walk_at "ev"); (focus walk_at "rv"); (intro hh_; (focus walk_at "ev")); (intro hh_; (focus walk_at "rv")))
  | ((with_reducible apply ev_notV); walk_at "ev")
  | ((with_reducible apply ev_cut2); walk_at "ev"))
local macro_rules | `(tactic| walk_at "ea") => `(tactic| first | with_reducible exact ea_nil | ((with_reducible apply ea_cons); (focus walk_at "ev"); (focus walk_at "ea")))
local macro_rules | `(tactic| walk_at "rc") => `(tactic| first | with_reducible exact rc_abs | with_reducible exact rc_intI | with_reducible exact rc_intB | with_reducible exact rc_lenL | with_reducible exact rc_tupOf | exact rc_isq (by assumption) (by assumption) | exact rc_isq (by omega) (by omega))
local macro_rules | `(tactic| walk_at "et") => `(tactic| first
  | ((with_reducible apply et_test); walk_at "ev")
  | ((with_reducible apply et_B); walk_at "ev")
  | ((with_reducible apply et_and); (focus walk_at "et"); (intro hh_; (focus walk_at "et")))
  | ((with_reducible apply et_or); (focus walk_at "et"); (intro hh_; (focus walk_at "et")))
  | ((with_reducible apply et_not); walk_at "et"))
local macro_rules | `(tactic| walk_at "tg") => `(tactic| first | with_reducible exact tg_name | ((with_reducible apply tg_tup); (focus walk_at "tgs"); exact rfl) | ((with_reducible apply tg_unl); (focus walk_at "tgs"); exact rfl))
local macro_rules | `(tactic| walk_at "tgs") => `(tactic| first | with_reducible exact tg_nil | ((with_reducible apply tg_cons); (focus walk_at "tg"); (focus walk_at "tgs")))
local macro_rules | `(tactic| walk_at "pre") => `(tactic| first | assumption | walk_at "bd" | exact Bd.mono (by walk_at "bd") (by omega) | omega | decide)

local macro_rules | `(tactic| walk_at "call") => `(tactic| ((with_reducible apply i_worth); all_goals (walk_at "pre")))

local macro_rules | `(tactic| walk_at "call") => `(tactic| ((with_reducible apply i_act); all_goals (walk_at "pre")))

local macro_rules | `(tactic| walk_at "call") => `(tactic| ((with_reducible apply i_discriminant); all_goals (walk_at "pre")))

local macro_rules | `(tactic| walk_at "call") => `(tactic| ((with_reducible apply i_scaled); all_goals (walk_at "pre")))

local macro_rules | `(tactic| walk_at "call") => `(tactic| ((with_reducible apply i_divided); all_goals (walk_at "pre")))

local macro_rules | `(tactic| walk_at "call") => `(tactic| ((with_reducible apply i_multiply); all_goals (walk_at "pre")))

local macro_rules | `(tactic| walk_at "call") => `(tactic| ((with_reducible apply i_determinant); all_goals (walk_at "pre")))

local macro_rules | `(tactic| walk_at "call") => `(tactic| ((with_reducible apply i_inverse); all_goals (walk_at "pre")))

local macro_rules | `(tactic| walk_at "call") => `(tactic| ((with_reducible apply i_floor_root); all_goals (walk_at "pre")))

local macro_rules | `(tactic| walk_at "call") => `(tactic| ((with_reducible apply i_is_square); all_goals (walk_at "pre")))

local macro_rules | `(tactic| walk_at "call") => `(tactic| ((with_reducible apply i_kind); all_goals (walk_at "pre")))

local macro_rules | `(tactic| walk_at "call") => `(tactic| ((with_reducible apply i_is_reduced_definite)))


local macro_rules | `(tactic| walk_at "call") => `(tactic| ((with_reducible apply i_measure); all_goals (walk_at "pre")))

local macro_rules | `(tactic| walk_at "call") => `(tactic| ((with_reducible apply i_content); all_goals (walk_at "pre")))

local macro_rules | `(tactic| walk_at "call") => `(tactic| ((with_reducible apply i_is_reduced_indefinite); all_goals (walk_at "pre")))

local macro_rules | `(tactic| walk_at "call") => `(tactic| ((with_reducible apply i_step_of); all_goals (walk_at "pre")))

local macro_rules | `(tactic| walk_at "call") => `(tactic| ((with_reducible apply i_law_root); all_goals (walk_at "pre")))

local macro_rules | `(tactic| walk_at "call") => `(tactic| ((with_reducible apply i_law_square); all_goals (walk_at "pre")))

local macro_rules | `(tactic| walk_at "call") => `(tactic| ((with_reducible apply i_law_kind); all_goals (walk_at "pre")))

local macro_rules | `(tactic| walk_at "call") => `(tactic| ((with_reducible apply i_law_is_reduced); all_goals (walk_at "pre")))

local macro_rules | `(tactic| walk_at "call") => `(tactic| ((with_reducible apply i_law_neighbour); all_goals (walk_at "pre")))

local macro_rules | `(tactic| walk_at "call") => `(tactic| ((with_reducible apply i_discF); assumption))
theorem gl2 (x y : Int) : gl [x, y] = ((Int.gcd x y : Nat) : Int) := by
  show ((Int.gcd ((Int.gcd 0 x : Nat) : Int) y : Nat) : Int) = _
  congr 1
  simp [Int.gcd]
theorem bd_fdiv {n : Nat} {x g : Int} (hg : g ≠ 0) (h : Bd n x) : Bd n (x.fdiv g) := Bd.of (Nat.lt_of_le_of_lt (Mth.fdiv_spec x g hg).2.2 h)
structure Spl (g : Mth.F3) : Prop where
  pos : 0 < Mth.dscF g
  le : Mth.dscF g ≤ 1300
  sq : sI g * sI g = Mth.dscF g
  k0 : 0 < sI g
  k36 : sI g ≤ 36
theorem spl_of {g : Mth.F3} (h0 : 0 < Mth.dscF g) (h1 : isSqB (Mth.dscF g) = true) (h2 : Mth.dscF g ≤ 1300) : Spl g := by
  obtain ⟨k1, k2, k3⟩ := isq_spec (Mth.dscF g) (by omega)
  unfold isSqB at h1
  rw [Bool.and_eq_true, decide_eq_true_eq, decide_eq_true_eq] at h1
  refine ⟨h0, h2, h1.2, ?_, ?_⟩
  · rcases Int.lt_or_le 0 (isq (Mth.dscF g)) with h | h
    · exact h
    · have : isq (Mth.dscF g) = 0 := by omega
      rw [this] at h1
      omega
  · rcases Int.lt_or_le (isq (Mth.dscF g)) 37 with h | h
    · show isq (Mth.dscF g) ≤ 36
      omega
    · have := Int.mul_le_mul h h (by decide) (by omega)
      omega

section
variable {P : Program} {w : World} {K : Fg} {mg : Str → Option Value} {base : Heap}

def Pre_primitive (ds : List PyData) : Prop := ∃ (x : Int) (y : Int), ds = [.int x, .int y] ∧ Bd 43 x ∧ Bd 43 y ∧ (¬ (x = 0 ∧ y = 0))
def Post_primitive (ds : List PyData) (d : PyData) : Prop := ∀ (x : Int) (y : Int), ds = [.int x, .int y] → ∃ x2 y2 t : Int, d = pt x2 y2 ∧ Int.gcd x2 y2 = 1 ∧ t ≠ 0 ∧ x = t * x2 ∧ y = t * y2 ∧ Bd 43 x2 ∧ Bd 43 y2

theorem sc_primitive : FnScope ["x", "y", "g"] ["x", "y"] (defScope (top 32)) := ⟨rfl, rfl, rfl, by decide +kernel, rfl, by decide +kernel, by decide +kernel⟩
theorem ok_primitive (T : Md K mg) (D : DefAt K mg "primitive" "primitive" (top 32) ["x", "y"]) (Gmeasure : Ok P w K mg base 2 "measure" ["numbers"] (spD K R_measure)) : Ok P w K mg base 3 "primitive" ["x", "y"] (spP K Pre_primitive Post_primitive) := by
  refine ok_rel D sc_primitive (fun ds h => by obtain ⟨x, y, rfl, _⟩ := h; rfl) fun f cdv A outer s H E hr => ?_
  refine ⟨_, (pss_cons (ps_set (i := 2) sc_primitive.nd rfl (Or.inl rfl) (pe_callO Gmeasure (hr.mono (by decide)) (by rfl) (pa_cons (pe_tup (pa_cons (pv 0) (pa_cons (pv 1) pa_nil))) pa_nil)))
      (pss_cons (ps_set (i := 0) sc_primitive.nd rfl (Or.inl rfl) (pe_op op_fdX (pv 0) (pv 2)))
      (pss_cons (ps_set (i := 1) sc_primitive.nd rfl (Or.inl rfl) (pe_op op_fdX (pv 1) (pv 2)))
      (pss_cons (ps_if (PW.pt (pw_or (pt_cmpR op_lt (pv 0) pe_int (nomark _)) (pw_or1 (PW.pt (pw_and (pt_cmpR (op_eqDK (K := K) (by exact rfl) hr.units) (pv 0) pe_int (nomark _)) (pw_and1 (pt_cmpR op_lt (pv 1) pe_int (nomark _)))))))) (pss_one (ps_ret (pe_tup (pa_cons (pe_un un_neg (pv 0)) (pa_cons (pe_un un_neg (pv 1)) pa_nil))))) pss_nil)
      (pss_one (ps_ret (pe_tup (pa_cons (pv 0) (pa_cons (pv 1) pa_nil))))))))), ?_⟩
  rintro _ ⟨x, y, rfl, h0, h1, h2⟩
  show SD K none _ [.d (.int x), .d (.int y), .no] none _ _ _ _
  have hb : ∀ n, n ∈ [x, y] → Bd 45 n := by
    intro n hn
    simp at hn
    rcases hn with rfl | rfl
    · exact h0.mono (by decide)
    · exact h1.mono (by decide)
  have hg0 : gl [x, y] ≠ 0 := by
    rw [gl2]
    intro z
    have z2 : Int.gcd x y = 0 := by omega
    exact h2 (Int.gcd_eq_zero_iff.mp z2)
  have hg60 : Bd 60 (gl [x, y]) := (gl_bd hb).mono (by decide)
  refine q_asg (d := .int (gl [x, y])) (ev_call (ds := [.tuple [.int x, .int y]]) (by walk_at "ea") (show R_measure [.tuple ([x, y].map .int)] _ from i_measure hb)) ?_
  refine q_asg (by walk_at "ev") ?_
  refine q_asg (by walk_at "ev") ?_
  obtain ⟨g1, g2, g3⟩ := Mth.gcd_div (gl2 x y).symm hg0
  have b1 := bd_fdiv hg0 h0
  have b2 := bd_fdiv hg0 h1
  generalize hx2 : x.fdiv (gl [x, y]) = x2 at *
  generalize hy2 : y.fdiv (gl [x, y]) = y2 at *
  refine s_seq (M := fun e o => e = [.d (.int x2), .d (.int y2), .d (.int (gl [x, y]))] ∧ o = none) (s_if (by walk_at "et") (fun hh => ?_) fun hh => ?_) ?_
  · refine s_ret (by walk_at "ev") ?_
    intro a b hab
    cases hab
    exact ⟨-x2, -y2, -(gl [x, y]), rfl, by rw [Int.neg_gcd, Int.gcd_neg]; exact g3, by omega, by rw [Int.neg_mul_neg]; exact g1, by rw [Int.neg_mul_neg]; exact g2, b1.neg, b2.neg⟩
  · exact s_next ⟨rfl, rfl⟩
  rintro _ _ ⟨rfl, rfl⟩
  refine s_ret (by walk_at "ev") ?_
  intro a b hab
  cases hab
  exact ⟨x2, y2, gl [x, y], rfl, g3, hg0, g1, g2, b1, b2⟩


def Pre_zero_lines (ds : List PyData) : Prop := ∃ (g : Mth.F3), ds = [dF g] ∧ Spl g ∧ BdF 40 g
def Post_zero_lines (ds : List PyData) (d : PyData) : Prop := ∀ (g : Mth.F3), ds = [dF g] → ∃ x1 y1 e1 x2 y2 e2 : Int, d = .list [pt x1 y1, pt x2 y2] ∧ Mth.Dir g x1 y1 e1 ∧ Mth.Dir g x2 y2 e2 ∧ (e1 = sI g ∨ e2 = sI g) ∧ (Bd 43 x1 ∧ Bd 43 y1) ∧ (Bd 43 x2 ∧ Bd 43 y2)

theorem sc_zero_lines : FnScope ["form", "a", "b", "c", "k"] ["form"] (defScope (top 33)) := ⟨rfl, rfl, rfl, by decide +kernel, rfl, by decide +kernel, by decide +kernel⟩
theorem ok_zero_lines (T : Md K mg) (D : DefAt K mg "zero_lines" "zero_lines" (top 33) ["form"]) (Gprimitive : Ok P w K mg base 3 "primitive" ["x", "y"] (spP K Pre_primitive Post_primitive)) (Gfloor_root : Ok P w K mg base 1 "floor_root" ["n"] (spD K R_floor_root)) (Gdiscriminant : Ok P w K mg base 1 "discriminant" ["form"] (spD K R_discriminant)) : Ok P w K mg base 4 "zero_lines" ["form"] (spP K Pre_zero_lines Post_zero_lines) := by
  refine ok_rel D sc_zero_lines (fun ds h => by obtain ⟨g, rfl, _⟩ := h; rfl) fun f cdv A outer s H E hr => ?_
  refine ⟨_, (pss_cons (ps_asg (pv 0) (pg_tupK (K := K) 3 (by exact rfl) rfl (pgs_cons (pg_name (i := 1) sc_zero_lines.nd rfl (Or.inl rfl)) (pgs_cons (pg_name (i := 2) sc_zero_lines.nd rfl (Or.inl rfl)) (pgs_cons (pg_name (i := 3) sc_zero_lines.nd rfl (Or.inl rfl)) pgs_nil))) (by rfl) (by rfl)))
      (pss_cons (ps_set (i := 4) sc_zero_lines.nd rfl (Or.inl rfl) (pe_callO Gfloor_root (hr.mono (by decide)) (by rfl) (pa_cons (pe_callO Gdiscriminant (hr.mono (by decide)) (by rfl) (pa_cons (pv 0) pa_nil)) pa_nil)))
      (pss_cons (ps_if (pt_cmpR (op_eqDK (K := K) (by exact rfl) hr.units) (pv 1) pe_int (nomark _)) (pss_one (ps_ret (pe_lst (pa_cons (pe_tup (pa_cons pe_int (pa_cons pe_int pa_nil))) (pa_cons (pe_callO Gprimitive (hr.mono (by decide)) (by rfl) (pa_cons (pe_un un_neg (pv 3)) (pa_cons (pv 2) pa_nil))) pa_nil))))) pss_nil)
      (pss_one (ps_ret (pe_lst (pa_cons (pe_callO Gprimitive (hr.mono (by decide)) (by rfl) (pa_cons (pe_op op_sub (pv 4) (pv 2)) (pa_cons (pe_op op_mulX pe_int (pv 1)) pa_nil))) (pa_cons (pe_callO Gprimitive (hr.mono (by decide)) (by rfl) (pa_cons (pe_op op_sub (pe_un un_neg (pv 4)) (pv 2)) (pa_cons (pe_op op_mulX pe_int (pv 1)) pa_nil))) pa_nil)))))))), ?_⟩
  rintro _ ⟨g, rfl, h0, h1⟩
  show SD K none _ [.d (dF g), .no, .no, .no, .no] none _ _ _ _
  obtain ⟨s1, s2, s3, s4, s5⟩ := h0
  have b1 : Bd 40 g.a := h1.a
  have b2 : Bd 40 g.b := h1.b
  have b3 : Bd 40 g.c := h1.c
  have bk : Bd 40 (sI g) := Bd.of (by omega)
  refine q_asgG (by walk_at "ev") (by walk_at "tg") ?_
  refine q_asg (d := .int (sI g)) (ev_call (ds := [.int (Mth.dscF g)]) (by walk_at "ea") (i_floor_root (by omega) (by omega))) ?_
  refine s_seq (M := fun e o => e = [.d (dF g), .d (.int g.a), .d (.int g.b), .d (.int g.c), .d (.int (sI g))] ∧ o = none ∧ g.a ≠ 0) (s_if (b := decide (g.a = 0)) (by walk_at "et") (fun hh => ?_) fun hh => ?_) ?_
  · have ha := of_decide_eq_true hh
    obtain ⟨d1, d2⟩ := Mth.split_dir0 ha
    have hb2 : g.b * g.b = sI g * sI g := by
      rw [s3]
      simp only [Mth.dscF]
      rw [ha]
      omega
    have hb3 : g.b = sI g ∨ g.b = -sI g := by
      have : (g.b - sI g) * (g.b + sI g) = 0 := by grind
      rcases Int.mul_eq_zero.mp this with h | h
      · left; omega
      · right; omega
    refine s_retR (er_lst (ear_cons (EvD.toR (d := pt 1 0) (by walk_at "ev") (ear_cons (er_callP' (ds := [.int (-g.c), .int g.b]) (by walk_at "ea") ⟨_, _, rfl, (b3.neg).mono (by decide), b2.mono (by decide), by omega⟩ fun d hd => ear_nil ?_)))))
    obtain ⟨x2, y2, t, rfl, g1, g2, g3, g4, g5, g6⟩ := hd _ _ rfl
    refine ⟨Nat.le_of_ble_eq_true rfl, ?_⟩
    intro g' hg
    have e := dF1 hg
    subst e
    exact ⟨1, 0, g.b, x2, y2, -g.b, rfl, d1, d2 x2 y2 t g1 g2 g3 g4, by omega, ⟨Bd.of (by decide), Bd.of (by decide)⟩, g5, g6⟩
  · exact s_next ⟨rfl, rfl, of_decide_eq_false hh⟩
  rintro _ _ ⟨rfl, rfl, ha⟩
  obtain ⟨d1, d2⟩ := Mth.split_dir (g := g) s3
  refine s_retR (er_lst (ear_cons (er_callP' (ds := [.int (sI g - g.b), .int (2 * g.a)]) (by walk_at "ea") ⟨_, _, rfl, (bk.sub b2).mono (by decide), Bd.of ?_, by omega⟩ fun d hd => ear_cons (er_callP' (ds := [.int (-sI g - g.b), .int (2 * g.a)]) (by walk_at "ea") ⟨_, _, rfl, (bk.neg.sub b2).mono (by decide), Bd.of ?_, by omega⟩ fun d' hd' => ear_nil ?_))))
  · have h : g.a.natAbs < 2 ^ 40 := b1
    omega
  · have h : g.a.natAbs < 2 ^ 40 := b1
    omega
  obtain ⟨x1, y1, t, rfl, g1, g2, g3, g4, g5, g6⟩ := hd _ _ rfl
  obtain ⟨x2, y2, t', rfl, l1, l2, l3, l4, l5, l6⟩ := hd' _ _ rfl
  refine ⟨Nat.le_of_ble_eq_true rfl, ?_⟩
  intro g' hg
  have e := dF1 hg
  subst e
  exact ⟨x1, y1, _, x2, y2, _, rfl, d1 x1 y1 t g1 g2 g3 g4, d2 x2 y2 t' l1 l2 l3 l4, .inr rfl, ⟨g5, g6⟩, l5, l6⟩


def Pre_leading (ds : List PyData) : Prop := ∃ (x : Int) (y : Int), ds = [pt x y] ∧ Int.gcd x y = 1 ∧ Bd 43 x ∧ Bd 43 y
def Post_leading (ds : List PyData) (d : PyData) : Prop := ∀ (x : Int) (y : Int), ds = [pt x y] → ∃ q s : Int, d = mt x q y s ∧ x * s - y * q = 1 ∧ Bd 100 q ∧ Bd 100 s

theorem sc_leading : FnScope ["point", "_", "u", "v"] ["point"] (defScope (top 34)) := ⟨rfl, rfl, rfl, by decide +kernel, rfl, by decide +kernel, by decide +kernel⟩
theorem ok_leading (T : Md K mg) (D : DefAt K mg "leading" "leading" (top 34) ["point"]) (Gbezout : Ok P w K mg base 1 "bezout" ["a", "b"] (spP K Pre_bezout Post_bezout)) : Ok P w K mg base 2 "leading" ["point"] (spP K Pre_leading Post_leading) := by
  refine ok_rel D sc_leading (fun ds h => by obtain ⟨x, y, rfl, _⟩ := h; rfl) fun f cdv A outer s H E hr => ?_
  refine ⟨_, (pss_cons (ps_asg (pe_callO Gbezout (hr.mono (by decide)) (by rfl) (pa_cons (pe_ix (ix_tupK (K := K) (by exact rfl)) (pv 0) pe_int (fun _ _ => rfl)) (pa_cons (pe_ix (ix_tupK (K := K) (by exact rfl)) (pv 0) pe_int (fun _ _ => rfl)) pa_nil))) (pg_tupK (K := K) 3 (by exact rfl) rfl (pgs_cons (pg_name (i := 1) sc_leading.nd rfl (Or.inl rfl)) (pgs_cons (pg_name (i := 2) sc_leading.nd rfl (Or.inl rfl)) (pgs_cons (pg_name (i := 3) sc_leading.nd rfl (Or.inl rfl)) pgs_nil))) (by rfl) (by rfl)))
      (pss_one (ps_ret (pe_tup (pa_cons (pe_ix (ix_tupK (K := K) (by exact rfl)) (pv 0) pe_int (fun _ _ => rfl)) (pa_cons (pe_un un_neg (pv 3)) (pa_cons (pe_ix (ix_tupK (K := K) (by exact rfl)) (pv 0) pe_int (fun _ _ => rfl)) (pa_cons (pv 2) pa_nil)))))))), ?_⟩
  rintro _ ⟨x, y, rfl, h0, h1, h2⟩
  show SD K none _ [.d (pt x y), .no, .no, .no] none _ _ _ _
  refine q_asgR (er_callP' (ds := [.int x, .int y]) (by walk_at "ea") ⟨_, _, rfl, h1.mono (by decide), h2.mono (by decide)⟩ fun d hd => ?_)
  obtain ⟨u, v, rfl, e1, e2, e3⟩ := hd _ _ rfl
  refine ⟨_, by walk_at "tg", ?_⟩
  refine s_ret (by walk_at "ev") ?_
  intro a b hab
  cases hab
  refine ⟨-v, u, rfl, ?_, e3.neg, e2.mono (by decide)⟩
  rw [h0] at e1
  grind


end
end Kx

-- K11
set_option maxHeartbeats 2000000
namespace Kx
open PySem PySem.Spec PyProof.Rows L2
local macro_rules | `(tactic| walk_at "bd") => `(tactic| first | assumption | exact Bd.lit (by decide) | ((with_reducible apply Bd.mul) <;> walk_at "bd") | ((with_reducible apply Bd.add) <;> walk_at "bd") | ((with_reducible apply Bd.sub) <;> walk_at "bd") | ((with_reducible apply Bd.neg); walk_at "bd"))
local macro_rules | `(tactic| walk_at "mul") => `(tactic| first | assumption | exact mulok_l (Bd.mono (by walk_at "bd") (by omega)) | exact mulok_r (Bd.mono (by walk_at "bd") (by omega)) | ((with_reducible apply mulok); (focus walk_at "bd"); (focus walk_at "bd"); omega))
local macro_rules | `(tactic| walk_at "cond") => `(tactic| first | assumption | walk_at "mul" | exact cfd (by first | assumption | omega) (by walk_at "bd") (by omega) | omega | decide)
local macro_rules | `(tactic| walk_at "rv") => `(tactic| first | with_reducible exact rv_I0 | with_reducible exact rv_B0 | with_reducible exact rv_eqI | with_reducible exact rv_neI | with_reducible exact rv_eqF | with_reducible exact rv_neF | with_reducible exact rv_eqS | ((with_reducible apply rv_I); walk_at "cond") | ((with_reducible apply rv_ixT); exact rfl) | ((with_reducible apply rv_ixL); exact rfl) | with_reducible exact rv_isN | with_reducible exact rv_notN | exact rv_cat (Nat.le_of_ble_eq_true rfl))
local macro_rules | `(tactic| walk_at "ev") => `(tactic| first
  | ((with_reducible apply ev_var); exact rfl) | with_reducible exact ev_int | with_reducible exact ev_bl | with_reducible exact ev_str | with_reducible exact ev_non | exact ev_quad (by assumption)
  | ((with_reducible apply ev_op); (focus walk_at "ev"); (focus walk_at "ev"); (focus walk_at "rv"))
  | ((with_reducible apply ev_un); (focus walk_at "ev"); with_reducible exact ru_I)
  | ((with_reducible apply ev_tup); (focus walk_at "ea"); exact Nat.le_of_ble_eq_true rfl)
  | ((with_reducible apply ev_lst); (focus walk_at "ea"); exact Nat.le_of_ble_eq_true rfl)
  | ((with_reducible apply ev_call); (focus walk_at "ea"); (focus walk_at "call"))
  | ((with_reducible apply ev_cb); (focus walk_at "ea"); (focus walk_at "rc"))
  | ((with_reducible apply ev_andV); (focus walk_at "ev"); (intro hh_; (focus walk_at "ev")))
  | ((with_reducible apply ev_orV); (focus walk_at "ev"); (intro hh_; (focus walk_at "ev")))
  | ((with_reducible apply ev_chain); (focus walk_at "ev"); (focus walk_at "ev"); (focus walk_at "rv"); (intro hh_; (focus walk_at "ev")); (intro hh_; (focus walk_at "rv")))
  | ((with_reducible apply ev_notV); walk_at "ev")
  | ((with_reducible apply ev_cut2); walk_at "ev"))
local macro_rules | `(tactic| walk_at "ea") => `(tactic| first | with_reducible exact ea_nil | ((with_reducible apply ea_cons); (focus walk_at "ev"); (focus walk_at "ea")))
local macro_rules | `(tactic| walk_at "rc") => `(tactic| first | with_reducible exact rc_abs | with_reducible exact rc_intI | with_reducible exact rc_intB | with_reducible exact rc_lenL | with_reducible exact rc_tupOf | exact rc_isq (by assumption) (by assumption) | exact rc_isq (by omega) (by omega))
local macro_rules | `(tactic| walk_at "et") => `(tactic| first
  | ((with_reducible apply et_test); walk_at "ev")
  | ((with_reducible apply et_B); walk_at "ev")
  | ((with_reducible apply et_and); (focus walk_at "et"); (intro hh_; (focus walk_at "et")))
  | ((with_reducible apply et_or); (focus walk_at "et"); (intro hh_; (focus walk_at "et")))
  | ((with_reducible apply et_not); walk_at "et"))
local macro_rules | `(tactic| walk_at "tg") => `(tactic| first | with_reducible exact tg_name | ((with_reducible apply tg_tup); (focus walk_at "tgs"); exact rfl) | ((with_reducible apply tg_unl); (focus walk_at "tgs"); exact rfl))
local macro_rules | `(tactic| walk_at "tgs") => `(tactic| first | with_reducible exact tg_nil | ((with_reducible apply tg_cons); (focus walk_at "tg"); (focus walk_at "tgs")))
local macro_rules | `(tactic| walk_at "pre") => `(tactic| first | assumption | walk_at "bd" | exact Bd.mono (by walk_at "bd") (by omega) | omega | decide)

local macro_rules | `(tactic| walk_at "call") => `(tactic| ((with_reducible apply i_worth); all_goals (walk_at "pre")))

local macro_rules | `(tactic| walk_at "call") => `(tactic| ((with_reducible apply i_act); all_goals (walk_at "pre")))

local macro_rules | `(tactic| walk_at "call") => `(tactic| ((with_reducible apply i_discriminant); all_goals (walk_at "pre")))

local macro_rules | `(tactic| walk_at "call") => `(tactic| ((with_reducible apply i_scaled); all_goals (walk_at "pre")))

local macro_rules | `(tactic| walk_at "call") => `(tactic| ((with_reducible apply i_divided); all_goals (walk_at "pre")))

local macro_rules | `(tactic| walk_at "call") => `(tactic| ((with_reducible apply i_multiply); all_goals (walk_at "pre")))

local macro_rules | `(tactic| walk_at "call") => `(tactic| ((with_reducible apply i_determinant); all_goals (walk_at "pre")))

local macro_rules | `(tactic| walk_at "call") => `(tactic| ((with_reducible apply i_inverse); all_goals (walk_at "pre")))

local macro_rules | `(tactic| walk_at "call") => `(tactic| ((with_reducible apply i_floor_root); all_goals (walk_at "pre")))

local macro_rules | `(tactic| walk_at "call") => `(tactic| ((with_reducible apply i_is_square); all_goals (walk_at "pre")))

local macro_rules | `(tactic| walk_at "call") => `(tactic| ((with_reducible apply i_kind); all_goals (walk_at "pre")))

local macro_rules | `(tactic| walk_at "call") => `(tactic| ((with_reducible apply i_is_reduced_definite)))


local macro_rules | `(tactic| walk_at "call") => `(tactic| ((with_reducible apply i_measure); all_goals (walk_at "pre")))

local macro_rules | `(tactic| walk_at "call") => `(tactic| ((with_reducible apply i_content); all_goals (walk_at "pre")))

local macro_rules | `(tactic| walk_at "call") => `(tactic| ((with_reducible apply i_is_reduced_indefinite); all_goals (walk_at "pre")))

local macro_rules | `(tactic| walk_at "call") => `(tactic| ((with_reducible apply i_step_of); all_goals (walk_at "pre")))

local macro_rules | `(tactic| walk_at "call") => `(tactic| ((with_reducible apply i_law_root); all_goals (walk_at "pre")))

local macro_rules | `(tactic| walk_at "call") => `(tactic| ((with_reducible apply i_law_square); all_goals (walk_at "pre")))

local macro_rules | `(tactic| walk_at "call") => `(tactic| ((with_reducible apply i_law_kind); all_goals (walk_at "pre")))

local macro_rules | `(tactic| walk_at "call") => `(tactic| ((with_reducible apply i_law_is_reduced); all_goals (walk_at "pre")))

local macro_rules | `(tactic| walk_at "call") => `(tactic| ((with_reducible apply i_law_neighbour); all_goals (walk_at "pre")))

local macro_rules | `(tactic| walk_at "call") => `(tactic| ((with_reducible apply i_discF); assumption))
theorem gl3 (a b c : Int) : gl [a, b, c] = ((Nat.gcd (Nat.gcd a.natAbs b.natAbs) c.natAbs : Nat) : Int) := by
  show ((Int.gcd ((Int.gcd ((Int.gcd 0 a : Nat) : Int) b : Nat) : Int) c : Nat) : Int) = _
  simp [Int.gcd]
theorem isq_sq {p : Int} (h : 0 ≤ p) : isq (p * p) = p := by
  obtain ⟨k1, k2, k3⟩ := isq_spec (p * p) (Int.mul_nonneg h h)
  rcases Int.lt_trichotomy (isq (p * p)) p with q | q | q
  · have := Int.mul_le_mul (show isq (p * p) + 1 ≤ p by omega) (show isq (p * p) + 1 ≤ p by omega) (by omega) h
    omega
  · exact q
  · have := Int.mul_le_mul (show p + 1 ≤ isq (p * p) by omega) (show p + 1 ≤ isq (p * p) by omega) (by omega) (by omega)
    grind
def glF (g : Mth.F3) : Int := gl [g.a, g.b, g.c]
/-- the canonical form of a flat form -/
def CanF (g C : Mth.F3) : Prop := C = ⟨if g.a + g.c < 0 then -(glF g) else glF g, 0, 0⟩
theorem gl_nn (ns : List Int) : 0 ≤ gl ns := by
  rcases List.eq_nil_or_concat ns with h | ⟨l, x, h⟩
  · rw [h]
    exact Int.le_refl _
  · rw [h, List.concat_eq_append, gl_snoc]
    exact Int.natCast_nonneg _
theorem glF_zero {g : Mth.F3} (h : glF g = 0) : g = ⟨0, 0, 0⟩ := by
  unfold glF at h
  rw [gl3] at h
  have h2 : Nat.gcd (Nat.gcd g.a.natAbs g.b.natAbs) g.c.natAbs = 0 := by omega
  have h3 := Nat.gcd_eq_zero_iff.mp h2
  have h4 := Nat.gcd_eq_zero_iff.mp h3.1
  exact Mth.F3.ext (by show g.a = 0; omega) (by show g.b = 0; omega) (by show g.c = 0; omega)
/-- a flat form, divided -/
theorem flat_div {g : Mth.F3} (hD : Mth.dscF g = 0) (h0 : glF g ≠ 0) : ∃ a b c : Int, g.a.fdiv (glF g) = a ∧ g.b.fdiv (glF g) = b ∧ g.c.fdiv (glF g) = c ∧ g.a = glF g * a ∧ g.b = glF g * b ∧ g.c = glF g * c ∧ b * b = 4 * a * c ∧
    Nat.gcd (Nat.gcd a.natAbs b.natAbs) c.natAbs = 1 := by
  have hG : glF g = ((Nat.gcd (Nat.gcd g.a.natAbs g.b.natAbs) g.c.natAbs : Nat) : Int) := gl3 _ _ _
  have hn : (glF g).natAbs = Nat.gcd (Nat.gcd g.a.natAbs g.b.natAbs) g.c.natAbs := by omega
  have d0 : Nat.gcd (Nat.gcd g.a.natAbs g.b.natAbs) g.c.natAbs ∣ Nat.gcd g.a.natAbs g.b.natAbs := Nat.gcd_dvd_left _ _
  have da : glF g ∣ g.a := Int.natAbs_dvd_natAbs.mp (by rw [hn]; exact Nat.dvd_trans d0 (Nat.gcd_dvd_left _ _))
  have db : glF g ∣ g.b := Int.natAbs_dvd_natAbs.mp (by rw [hn]; exact Nat.dvd_trans d0 (Nat.gcd_dvd_right _ _))
  have dc : glF g ∣ g.c := Int.natAbs_dvd_natAbs.mp (by rw [hn]; exact Nat.gcd_dvd_right _ _)
  have ea := Mth.fdiv_of_dvd h0 da
  have eb := Mth.fdiv_of_dvd h0 db
  have ec := Mth.fdiv_of_dvd h0 dc
  refine ⟨_, _, _, rfl, rfl, rfl, ea, eb, ec, ?_, ?_⟩
  · generalize g.a.fdiv (glF g) = a at *
    generalize g.b.fdiv (glF g) = b at *
    generalize g.c.fdiv (glF g) = c at *
    simp only [Mth.dscF] at hD
    rw [ea, eb, ec] at hD
    have : glF g * (glF g * (b * b - 4 * a * c)) = 0 := by grind
    rcases Int.mul_eq_zero.mp this with h | h
    · exact absurd h h0
    · rcases Int.mul_eq_zero.mp h with h | h
      · exact absurd h h0
      · omega
  · generalize g.a.fdiv (glF g) = a at *
    generalize g.b.fdiv (glF g) = b at *
    generalize g.c.fdiv (glF g) = c at *
    generalize hGG : glF g = G at *
    rw [ea, eb, ec, Int.natAbs_mul, Int.natAbs_mul, Int.natAbs_mul, Nat.gcd_mul_left, Nat.gcd_mul_left] at hn
    have h5 : G.natAbs * Nat.gcd (Nat.gcd a.natAbs b.natAbs) c.natAbs = G.natAbs * 1 := by omega
    exact Nat.eq_of_mul_eq_mul_left (by omega) h5

section
variable {P : Program} {w : World} {K : Fg} {mg : Str → Option Value} {base : Heap}

def Pre_canonical_split (ds : List PyData) : Prop := ∃ (g : Mth.F3), ds = [dF g] ∧ Spl g ∧ BdF 40 g
def Post_canonical_split (ds : List PyData) (d : PyData) : Prop := ∀ (g : Mth.F3), ds = [dF g] → ∃ (C : Mth.F3) (m : Mth.M4), d = .tuple [dF C, dM m] ∧ Mth.CanS (sI g) g C ∧ Mth.actF g m = C ∧ Mth.detM m = 1 ∧ BdM 1000 m

theorem sc_canonical_split : FnScope ["form", "k", "direction", "m", "_", "b", "c", "step"] ["form"] (defScope (top 35)) := ⟨rfl, rfl, rfl, by decide +kernel, rfl, by decide +kernel, by decide +kernel⟩
theorem ok_canonical_split (T : Md K mg) (D : DefAt K mg "canonical_split" "canonical_split" (top 35) ["form"]) (Gzero_lines : Ok P w K mg base 4 "zero_lines" ["form"] (spP K Pre_zero_lines Post_zero_lines)) (Gact : Ok P w K mg base 2 "act" ["form", "m"] (spD K R_act)) (Gmultiply : Ok P w K mg base 1 "multiply" ["m", "n"] (spD K R_multiply)) (Gleading : Ok P w K mg base 2 "leading" ["point"] (spP K Pre_leading Post_leading)) (Gfloor_root : Ok P w K mg base 1 "floor_root" ["n"] (spD K R_floor_root)) (Gdiscriminant : Ok P w K mg base 1 "discriminant" ["form"] (spD K R_discriminant)) : Ok P w K mg base 5 "canonical_split" ["form"] (spP K Pre_canonical_split Post_canonical_split) := by
  refine ok_rel D sc_canonical_split (fun ds h => by obtain ⟨g, rfl, _⟩ := h; rfl) fun f cdv A outer s H E hr => ?_
  refine ⟨_, (pss_cons (ps_set (i := 1) sc_canonical_split.nd rfl (Or.inl rfl) (pe_callO Gfloor_root (hr.mono (by decide)) (by rfl) (pa_cons (pe_callO Gdiscriminant (hr.mono (by decide)) (by rfl) (pa_cons (pv 0) pa_nil)) pa_nil)))
      (pss_cons (ps_for PassesOwn.never rfl (pi_listK (K := K) (by exact rfl) (pe_callO Gzero_lines (hr.mono (by decide)) (by rfl) (pa_cons (pv 0) pa_nil))) (pg_name (i := 2) sc_canonical_split.nd rfl (Or.inl rfl)) (pss_cons (ps_set (i := 3) sc_canonical_split.nd rfl (Or.inl rfl) (pe_callO Gleading (hr.mono (by decide)) (by rfl) (pa_cons (pv 2) pa_nil)))
      (pss_cons (ps_asg (pe_callO Gact (hr.mono (by decide)) (by rfl) (pa_cons (pv 0) (pa_cons (pv 3) pa_nil))) (pg_tupK (K := K) 3 (by exact rfl) rfl (pgs_cons (pg_name (i := 4) sc_canonical_split.nd rfl (Or.inl rfl)) (pgs_cons (pg_name (i := 5) sc_canonical_split.nd rfl (Or.inl rfl)) (pgs_cons (pg_name (i := 6) sc_canonical_split.nd rfl (Or.inl rfl)) pgs_nil))) (by rfl) (by rfl)))
      (pss_one (ps_if (pt_cmpR (op_eqDK (K := K) (by exact rfl) hr.units) (pv 5) (pv 1) (nomark _)) (pss_cons (ps_set (i := 7) sc_canonical_split.nd rfl (Or.inl rfl) (pe_tup (pa_cons pe_int (pa_cons (pe_un un_neg (pe_op op_fdX (pv 6) (pv 1))) (pa_cons pe_int (pa_cons pe_int pa_nil))))))
      (pss_cons (ps_set (i := 3) sc_canonical_split.nd rfl (Or.inl rfl) (pe_callO Gmultiply (hr.mono (by decide)) (by rfl) (pa_cons (pv 3) (pa_cons (pv 7) pa_nil))))
      (pss_one (ps_ret (pe_tup (pa_cons (pe_callO Gact (hr.mono (by decide)) (by rfl) (pa_cons (pv 0) (pa_cons (pv 3) pa_nil))) (pa_cons (pv 3) pa_nil))))))) pss_nil)))))
      (pss_one (ps_ret (pe_tup (pa_cons (pv 0) (pa_cons (pe_tup (pa_cons pe_int (pa_cons pe_int (pa_cons pe_int (pa_cons pe_int pa_nil))))) pa_nil))))))), ?_⟩
  rintro _ ⟨g, rfl, h0, h1⟩
  show SD K none _ [.d (dF g), .no, .no, .no, .no, .no, .no, .no] none _ _ _ _
  have hs := h0
  obtain ⟨s1, s2, s3, s4, s5⟩ := h0
  have bk : Bd 40 (sI g) := Bd.of (by omega)
  have k0 : sI g ≠ 0 := by omega
  refine q_asg (d := .int (sI g)) (ev_call (ds := [.int (Mth.dscF g)]) (by walk_at "ea") (i_floor_root (by omega) (by omega))) ?_
  refine s_seq (M := fun _ _ => False) (s_forLR (er_callP' (by walk_at "ea") ⟨g, rfl, hs, h1⟩ fun d hd => ?_)) (fun _ _ z => z.elim)
  obtain ⟨x1, y1, e1, x2, y2, e2, rfl, d1, d2, he, ⟨c1, c2⟩, c3, c4⟩ := hd g rfl
  refine ⟨_, fun i e o => (∃ z2 z3 z4 z5 z6 z7, e = [.d (dF g), .d (.int (sI g)), z2, z3, z4, z5, z6, z7]) ∧ o = none ∧ (1 ≤ i → e1 ≠ sI g) ∧ (2 ≤ i → e2 ≠ sI g), rfl, ⟨⟨_, _, _, _, _, _, rfl⟩, rfl, fun z => absurd z (by decide), fun z => absurd z (by decide)⟩, ?_, ?_⟩
  · rintro i d e o hi ⟨⟨z2, z3, z4, z5, z6, z7, rfl⟩, rfl, n1, n2⟩
    have pick : ∃ x y ee, d = pt x y ∧ Mth.Dir g x y ee ∧ Bd 43 x ∧ Bd 43 y ∧ (ee ≠ sI g → (1 ≤ i + 1 → e1 ≠ sI g) ∧ (2 ≤ i + 1 → e2 ≠ sI g)) := by
      match i, hi with
      | 0, hi =>
        have := Option.some.inj hi
        exact ⟨x1, y1, e1, this.symm, d1, c1, c2, fun q => ⟨fun _ => q, fun z => absurd z (by decide)⟩⟩
      | 1, hi =>
        have := Option.some.inj hi
        exact ⟨x2, y2, e2, this.symm, d2, c3, c4, fun q => ⟨fun _ => n1 (by decide), fun _ => q⟩⟩
      | k + 2, hi => exact absurd hi (by simp)
    obtain ⟨x, y, ee, rfl, dd, b1, b2, fin⟩ := pick
    refine ⟨_, tg_name, ?_⟩
    refine q_asgR (er_callP' (by walk_at "ea") ⟨x, y, rfl, dd.gcd, b1, b2⟩ fun d hd => ?_)
    obtain ⟨q, s, rfl, det, b3, b4⟩ := hd x y rfl
    refine ⟨_, tg_name, ?_⟩
    obtain ⟨a1, a2⟩ := Mth.dir_act dd det
    have hm : Mth.detM ⟨x, q, y, s⟩ = 1 := by
      simp only [Mth.detM]
      grind
    have bm : BdM 100 ⟨x, q, y, s⟩ := ⟨b1.mono (by decide), b3, b2.mono (by decide), b4⟩
    refine q_asgG (d := dF (Mth.actF g ⟨x, q, y, s⟩)) (ev_call (ds := [dF g, dM ⟨x, q, y, s⟩]) (by walk_at "ea") (i_actM h1 bm (by omega))) (tg_tup (tg_cons tg_name (tg_cons tg_name (tg_cons tg_name tg_nil))) rfl) ?_
    have bc : Bd 300 (Mth.actF g ⟨x, q, y, s⟩).c := by
      have t1 := ((h1.a.mul b3).mul b3).mono (show 40 + 100 + 100 ≤ 290 by decide)
      have t2 := ((h1.b.mul b3).mul b4).mono (show 40 + 100 + 100 ≤ 290 by decide)
      have t3 := ((h1.c.mul b4).mul b4).mono (show 40 + 100 + 100 ≤ 290 by decide)
      exact ((t1.add t2).add t3).mono (by decide)
    generalize hA : Mth.actF g ⟨x, q, y, s⟩ = A at *
    refine s_if (b := decide (A.b = sI g)) (et_test (ev_op (ev_var rfl) (ev_var rfl) rv_eqI)) (fun hh => ?_) fun hh => ?_
    · have hb := of_decide_eq_true hh
      have sh := Mth.split_shift (g := g) (k := sI g) (m := ⟨x, q, y, s⟩) s4 (by rw [hA]; exact a1) (by rw [hA]; exact hb) hm
      rw [hA] at sh
      obtain ⟨sh1, sh2, sh3⟩ := sh
      have bq : Bd 300 (A.c.fdiv (sI g)) := bd_fdiv k0 bc
      have bst : BdM 300 ⟨1, -(A.c.fdiv (sI g)), 0, 1⟩ := ⟨show Bd 300 1 from Bd.of (by decide), bq.neg, show Bd 300 0 from Bd.of (by decide), show Bd 300 1 from Bd.of (by decide)⟩
      have bmm := bm.mul bst
      refine q_asg (d := dM ⟨1, -(A.c.fdiv (sI g)), 0, 1⟩) (by walk_at "ev") ?_
      refine q_asg (ev_call (ds := [dM ⟨x, q, y, s⟩, dM ⟨1, -(A.c.fdiv (sI g)), 0, 1⟩]) (by walk_at "ea") (i_mulM bm bst (by omega))) ?_
      refine s_ret (d := .tuple [dF (Mth.actF g (Mth.mulM ⟨x, q, y, s⟩ ⟨1, -(A.c.fdiv (sI g)), 0, 1⟩)), dM (Mth.mulM ⟨x, q, y, s⟩ ⟨1, -(A.c.fdiv (sI g)), 0, 1⟩)]) (ev_tup (ea_cons (ev_call (ds := [dF g, dM (Mth.mulM ⟨x, q, y, s⟩ ⟨1, -(A.c.fdiv (sI g)), 0, 1⟩)]) (ea_cons (ev_var rfl) (ea_cons (ev_var rfl) ea_nil)) (i_actM h1 bmm (by omega))) (ea_cons (ev_var rfl) ea_nil)) (Nat.le_of_ble_eq_true rfl)) ?_
      intro g' hg
      have e := dF1 hg
      subst e
      rw [← sh1] at sh3
      exact ⟨_, _, rfl, sh3, rfl, sh2, bmm.mono (by omega)⟩
    · have hb := of_decide_eq_false hh
      rw [a2] at hb
      exact s_next ⟨⟨_, _, _, _, _, _, rfl⟩, rfl, fin hb⟩
  · rintro e o ⟨_, _, n1, n2⟩
    rcases he with h | h
    · exact absurd h (n1 (Nat.le_of_ble_eq_true rfl))
    · exact absurd h (n2 (Nat.le_of_ble_eq_true rfl))


def Pre_flat_parts (ds : List PyData) : Prop := ∃ (g : Mth.F3), ds = [dF g] ∧ Mth.dscF g = 0 ∧ BdF 40 g
def Post_flat_parts (ds : List PyData) (d : PyData) : Prop := ∀ (g : Mth.F3), ds = [dF g] → (glF g = 0 ∧ d = .tuple [.int 0, .int 1, .int 0]) ∨ (glF g ≠ 0 ∧ ∃ p q t : Int, d = .tuple [.int t, .int p, .int q] ∧ t ≠ 0 ∧ t = (if g.a + g.c < 0 then -(glF g) else glF g) ∧ Int.gcd p q = 1 ∧ g = ⟨t * (p * p), t * (2 * p * q), t * (q * q)⟩ ∧ Bd 43 p ∧ Bd 43 q)

theorem sc_flat_parts : FnScope ["form", "g", "a", "b", "c", "sign", "p", "q"] ["form"] (defScope (top 36)) := ⟨rfl, rfl, rfl, by decide +kernel, rfl, by decide +kernel, by decide +kernel⟩
theorem ok_flat_parts (T : Md K mg) (D : DefAt K mg "flat_parts" "flat_parts" (top 36) ["form"]) (Gfloor_root : Ok P w K mg base 1 "floor_root" ["n"] (spD K R_floor_root)) (Gdivided : Ok P w K mg base 1 "divided" ["form", "number"] (spD K R_divided)) (Gcontent : Ok P w K mg base 3 "content" ["form"] (spD K R_content)) : Ok P w K mg base 4 "flat_parts" ["form"] (spP K Pre_flat_parts Post_flat_parts) := by
  refine ok_rel D sc_flat_parts (fun ds h => by obtain ⟨g, rfl, _⟩ := h; rfl) fun f cdv A outer s H E hr => ?_
  refine ⟨_, (pss_cons (ps_set (i := 1) sc_flat_parts.nd rfl (Or.inl rfl) (pe_callO Gcontent (hr.mono (by decide)) (by rfl) (pa_cons (pv 0) pa_nil)))
      (pss_cons (ps_if (pt_cmpR (op_eqDK (K := K) (by exact rfl) hr.units) (pv 1) pe_int (nomark _)) (pss_one (ps_ret (pe_tup (pa_cons pe_int (pa_cons pe_int (pa_cons pe_int pa_nil)))))) pss_nil)
      (pss_cons (ps_asg (pe_callO Gdivided (hr.mono (by decide)) (by rfl) (pa_cons (pv 0) (pa_cons (pv 1) pa_nil))) (pg_tupK (K := K) 3 (by exact rfl) rfl (pgs_cons (pg_name (i := 2) sc_flat_parts.nd rfl (Or.inl rfl)) (pgs_cons (pg_name (i := 3) sc_flat_parts.nd rfl (Or.inl rfl)) (pgs_cons (pg_name (i := 4) sc_flat_parts.nd rfl (Or.inl rfl)) pgs_nil))) (by rfl) (by rfl)))
      (pss_cons (ps_set (i := 5) sc_flat_parts.nd rfl (Or.inl rfl) pe_int)
      (pss_cons (ps_if (PW.pt (pw_or (pt_cmpR op_lt (pv 2) pe_int (nomark _)) (pw_or1 (pt_cmpR op_lt (pv 4) pe_int (nomark _))))) (pss_one (ps_set (i := 5) sc_flat_parts.nd rfl (Or.inl rfl) (pe_un un_neg pe_int))) pss_nil)
      (pss_cons (ps_set (i := 6) sc_flat_parts.nd rfl (Or.inl rfl) (pe_callO Gfloor_root (hr.mono (by decide)) (by rfl) (pa_cons (pe_callB call_abs (by rfl) T.abs (by decide +kernel) (pa_cons (pv 2) pa_nil)) pa_nil)))
      (pss_cons (ps_set (i := 7) sc_flat_parts.nd rfl (Or.inl rfl) (pe_callO Gfloor_root (hr.mono (by decide)) (by rfl) (pa_cons (pe_callB call_abs (by rfl) T.abs (by decide +kernel) (pa_cons (pv 4) pa_nil)) pa_nil)))
      (pss_cons (ps_if (pt_cmpR op_lt (pe_op op_mulX (pv 3) (pv 5)) pe_int (nomark _)) (pss_one (ps_set (i := 7) sc_flat_parts.nd rfl (Or.inl rfl) (pe_un un_neg (pv 7)))) pss_nil)
      (pss_one (ps_ret (pe_tup (pa_cons (pe_op op_mulX (pv 5) (pv 1)) (pa_cons (pv 6) (pa_cons (pv 7) pa_nil)))))))))))))), ?_⟩
  rintro _ ⟨g, rfl, h0, h1⟩
  show SD K none _ [.d (dF g), .no, .no, .no, .no, .no, .no, .no] none _ _ _ _
  have hG := gl_nn [g.a, g.b, g.c]
  have bG : Bd 45 (glF g) := gl_bd fun n hn => by
    simp at hn
    rcases hn with rfl | rfl | rfl
    · exact h1.a.mono (by decide)
    · exact h1.b.mono (by decide)
    · exact h1.c.mono (by decide)
  refine q_asg (d := .int (glF g)) (ev_call (ds := [dF g]) (by walk_at "ea") (i_content (h1.a.mono (by decide)) (h1.b.mono (by decide)) (h1.c.mono (by decide)))) ?_
  refine s_seq (M := fun e o => e = [.d (dF g), .d (.int (glF g)), .no, .no, .no, .no, .no, .no] ∧ o = none ∧ glF g ≠ 0) (s_if (b := decide (glF g = 0)) (by walk_at "et") (fun hh => ?_) fun hh => ?_) ?_
  · have hz := of_decide_eq_true hh
    refine s_ret (by walk_at "ev") ?_
    intro g' hg
    have e := dF1 hg
    subst e
    exact .inl ⟨hz, rfl⟩
  · exact s_next ⟨rfl, rfl, of_decide_eq_false hh⟩
  rintro _ _ ⟨rfl, rfl, hne⟩
  obtain ⟨a, b, c, ha, hb, hc, ea, eb, ec, hD, hg1⟩ := flat_div h0 hne
  have ba : Bd 40 a := by rw [← ha]; exact bd_fdiv hne h1.a
  have bb : Bd 40 b := by rw [← hb]; exact bd_fdiv hne h1.b
  have bc : Bd 40 c := by rw [← hc]; exact bd_fdiv hne h1.c
  obtain ⟨p, q, σ, p0, s1, s2, hp, hq, ea', ec', eb', hn, hq0, hgc⟩ := Mth.flat_root hD hg1
  have ha2 : a.natAbs < 2 ^ 40 := ba
  have hc2 : c.natAbs < 2 ^ 40 := bc
  have ip : isq (a.natAbs : Int) = p := by rw [← hp]; exact isq_sq p0
  have iq : isq (c.natAbs : Int) = (q.natAbs : Int) := by
    have e : q * q = ((q.natAbs : Nat) : Int) * q.natAbs := Int.natAbs_mul_self.symm
    rw [← hq, e]
    exact isq_sq (by omega)
  have bp : Bd 43 p := by
    refine Bd.of ?_
    rcases Int.lt_or_le p (2 ^ 40) with h | h
    · omega
    · have := Int.mul_le_mul h h (by decide) p0
      omega
  have bq : Bd 43 q := by
    refine Bd.of ?_
    have e1 : ((q.natAbs : Nat) : Int) * q.natAbs = q * q := Int.natAbs_mul_self
    rcases Nat.lt_or_ge q.natAbs (2 ^ 40) with h | h
    · omega
    · have := Nat.mul_le_mul h h
      have e2 : ((q.natAbs * q.natAbs : Nat) : Int) = (q.natAbs : Int) * q.natAbs := Int.natCast_mul _ _
      omega
  have bs : Bd 40 σ := by
    rcases s1 with h | h <;> rw [h] <;> exact Bd.of (by decide)
  refine q_asgG (d := fm a b c) ?_ (by walk_at "tg") ?_
  · rw [← ha, ← hb, ← hc]
    exact ev_call (ds := [dF g, .int (glF g)]) (by walk_at "ea") (i_divided hne (bG.mono (by decide)))
  refine q_asg (by walk_at "ev") ?_
  refine s_seq (M := fun e o => e = [.d (dF g), .d (.int (glF g)), .d (.int a), .d (.int b), .d (.int c), .d (.int σ), .no, .no] ∧ o = none) (s_if (b := decide (a < 0) || decide (c < 0)) (by walk_at "et") (fun hh => ?_) fun hh => ?_) ?_
  · have hs : a < 0 ∨ c < 0 := by simpa using hh
    refine s_asg (d := .int (-1)) (by walk_at "ev") ⟨?_, rfl⟩
    rw [s2.mpr hs]
    rfl
  · have hs : ¬ (a < 0 ∨ c < 0) := by
      simp at hh
      omega
    refine s_next ⟨?_, rfl⟩
    have : σ = 1 := by
      rcases s1 with h | h
      · exact h
      · exact absurd (s2.mp h) hs
    rw [this]
    rfl
  rintro _ _ ⟨rfl, rfl⟩
  refine q_asg (d := .int p) (by rw [← ip]; exact ev_call (ds := [.int (a.natAbs : Int)]) (by walk_at "ea") (i_floor_root (by omega) (by omega))) ?_
  refine q_asg (d := .int (q.natAbs : Int)) (by rw [← iq]; exact ev_call (ds := [.int (c.natAbs : Int)]) (by walk_at "ea") (i_floor_root (by omega) (by omega))) ?_
  refine s_seq (M := fun e o => e = [.d (dF g), .d (.int (glF g)), .d (.int a), .d (.int b), .d (.int c), .d (.int σ), .d (.int p), .d (.int q)] ∧ o = none) (s_if (by walk_at "et") (fun hh => ?_) fun hh => ?_) ?_
  · have hs := of_decide_eq_true hh
    refine s_asg (by walk_at "ev") ⟨?_, rfl⟩
    have : -((q.natAbs : Nat) : Int) = q := by
      have := (hn.mp hs).1
      omega
    rw [this]
    rfl
  · have hs := of_decide_eq_false hh
    refine s_next ⟨?_, rfl⟩
    have : ((q.natAbs : Nat) : Int) = q := by
      by_cases hb0 : b = 0
      · have := hq0 hb0
        omega
      · have : ¬ q < 0 := fun z => hs (hn.mpr ⟨z, hb0⟩)
        omega
    rw [this]
    rfl
  rintro _ _ ⟨rfl, rfl⟩
  refine s_ret (by walk_at "ev") ?_
  intro g' hg
  have e := dF1 hg
  subst e
  refine .inr ⟨hne, p, q, σ * glF g, rfl, ?_, ?_, hgc, ?_, bp, bq⟩
  · intro z
    rcases Int.mul_eq_zero.mp z with h | h
    · rcases s1 with k | k <;> omega
    · exact hne h
  · -- the sign by a + c
    have hpq : 0 < p * p + q * q := by
      have k1 := Mth.sq_nn p
      have k2 := Mth.sq_nn q
      rcases Int.lt_or_le 0 (p * p + q * q) with h | h
      · exact h
      · exfalso
        have z1 : p * p = 0 := by omega
        have z2 : q * q = 0 := by omega
        have z3 : p = 0 := by rcases Int.mul_eq_zero.mp z1 with h | h <;> exact h
        have z4 : q = 0 := by rcases Int.mul_eq_zero.mp z2 with h | h <;> exact h
        rw [z3, z4] at hgc
        cases hgc
    have hac : g.a + g.c = σ * (glF g * (p * p + q * q)) := by
      rw [ea, ec, ea', ec']
      grind
    have hpos : 0 < glF g * (p * p + q * q) := Int.mul_pos (by
      have : 0 ≤ glF g := hG
      omega) hpq
    rw [hac]
    rcases s1 with k | k
    · rw [k, if_neg (by omega)]
      omega
    · rw [k, if_pos (by omega)]
      omega
  · refine Mth.F3.ext ?_ ?_ ?_
    · show g.a = _
      rw [ea, ea']
      grind
    · show g.b = _
      rw [eb, eb']
      grind
    · show g.c = _
      rw [ec, ec']
      grind


def Pre_canonical_flat (ds : List PyData) : Prop := ∃ (g : Mth.F3), ds = [dF g] ∧ Mth.dscF g = 0 ∧ BdF 40 g
def Post_canonical_flat (ds : List PyData) (d : PyData) : Prop := ∀ (g : Mth.F3), ds = [dF g] → ∃ (C : Mth.F3) (m : Mth.M4), d = .tuple [dF C, dM m] ∧ CanF g C ∧ Mth.actF g m = C ∧ Mth.detM m = 1 ∧ BdM 1000 m

theorem sc_canonical_flat : FnScope ["form", "g", "p", "q", "_", "u", "v"] ["form"] (defScope (top 37)) := ⟨rfl, rfl, rfl, by decide +kernel, rfl, by decide +kernel, by decide +kernel⟩
theorem ok_canonical_flat (T : Md K mg) (D : DefAt K mg "canonical_flat" "canonical_flat" (top 37) ["form"]) (Gbezout : Ok P w K mg base 1 "bezout" ["a", "b"] (spP K Pre_bezout Post_bezout)) (Gflat_parts : Ok P w K mg base 4 "flat_parts" ["form"] (spP K Pre_flat_parts Post_flat_parts)) : Ok P w K mg base 5 "canonical_flat" ["form"] (spP K Pre_canonical_flat Post_canonical_flat) := by
  refine ok_rel D sc_canonical_flat (fun ds h => by obtain ⟨g, rfl, _⟩ := h; rfl) fun f cdv A outer s H E hr => ?_
  refine ⟨_, (pss_cons (ps_asg (pe_callO Gflat_parts (hr.mono (by decide)) (by rfl) (pa_cons (pv 0) pa_nil)) (pg_tupK (K := K) 3 (by exact rfl) rfl (pgs_cons (pg_name (i := 1) sc_canonical_flat.nd rfl (Or.inl rfl)) (pgs_cons (pg_name (i := 2) sc_canonical_flat.nd rfl (Or.inl rfl)) (pgs_cons (pg_name (i := 3) sc_canonical_flat.nd rfl (Or.inl rfl)) pgs_nil))) (by rfl) (by rfl)))
      (pss_cons (ps_if (pt_cmpR (op_eqDK (K := K) (by exact rfl) hr.units) (pv 1) pe_int (nomark _)) (pss_one (ps_ret (pe_tup (pa_cons (pv 0) (pa_cons (pe_tup (pa_cons pe_int (pa_cons pe_int (pa_cons pe_int (pa_cons pe_int pa_nil))))) pa_nil))))) pss_nil)
      (pss_cons (ps_asg (pe_callO Gbezout (hr.mono (by decide)) (by rfl) (pa_cons (pv 2) (pa_cons (pv 3) pa_nil))) (pg_tupK (K := K) 3 (by exact rfl) rfl (pgs_cons (pg_name (i := 4) sc_canonical_flat.nd rfl (Or.inl rfl)) (pgs_cons (pg_name (i := 5) sc_canonical_flat.nd rfl (Or.inl rfl)) (pgs_cons (pg_name (i := 6) sc_canonical_flat.nd rfl (Or.inl rfl)) pgs_nil))) (by rfl) (by rfl)))
      (pss_one (ps_ret (pe_tup (pa_cons (pe_tup (pa_cons (pv 1) (pa_cons pe_int (pa_cons pe_int pa_nil)))) (pa_cons (pe_tup (pa_cons (pv 5) (pa_cons (pe_un un_neg (pv 3)) (pa_cons (pv 6) (pa_cons (pv 2) pa_nil))))) pa_nil)))))))), ?_⟩
  rintro _ ⟨g, rfl, h0, h1⟩
  show SD K none _ [.d (dF g), .no, .no, .no, .no, .no, .no] none _ _ _ _
  refine q_asgR (er_callP' (by walk_at "ea") ⟨g, rfl, h0, h1⟩ fun d hd => ?_)
  rcases hd g rfl with ⟨hz, rfl⟩ | ⟨hne, p, q, t, rfl, t0, et, hgc, eg, bp, bq⟩
  · refine ⟨_, tg_tup (tg_cons tg_name (tg_cons tg_name (tg_cons tg_name tg_nil))) rfl, ?_⟩
    have g0 := glF_zero hz
    refine s_seq (M := fun _ _ => False) (s_if (b := true) (et_test (EvD.is (ev_op (ev_var rfl) ev_int rv_eqI) rfl)) (fun _ => ?_) fun z => nomatch z) (fun _ _ z => z.elim)
    refine s_ret (d := .tuple [dF g, mt 1 0 0 1]) (ev_tup (ea_cons (ev_var rfl) (ea_cons (by walk_at "ev") ea_nil)) (Nat.le_of_ble_eq_true rfl)) ?_
    intro g' hg
    have e := dF1 hg
    subst e
    refine ⟨g, Mth.one, rfl, ?_, Mth.act_one g, rfl, BdM.one.mono (by decide)⟩
    unfold CanF
    rw [hz, g0]
    rfl
  · refine ⟨_, tg_tup (tg_cons tg_name (tg_cons tg_name (tg_cons tg_name tg_nil))) rfl, ?_⟩
    refine s_seq (M := fun e o => e = [.d (dF g), .d (.int t), .d (.int p), .d (.int q), .no, .no, .no] ∧ o = none) (s_if (b := decide (t = 0)) (et_test (ev_op (ev_var rfl) ev_int rv_eqI)) (fun hh => absurd (of_decide_eq_true hh) t0) fun _ => s_next ⟨rfl, rfl⟩) ?_
    rintro _ _ ⟨rfl, rfl⟩
    refine q_asgR (er_callP' (ds := [.int p, .int q]) (by walk_at "ea") ⟨_, _, rfl, bp.mono (by decide), bq.mono (by decide)⟩ fun d hd => ?_)
    obtain ⟨u, v, rfl, e1, e2, e3⟩ := hd _ _ rfl
    refine ⟨_, tg_tup (tg_cons tg_name (tg_cons tg_name (tg_cons tg_name tg_nil))) rfl, ?_⟩
    refine s_ret (d := .tuple [fm t 0 0, mt u (-q) v p]) (by walk_at "ev") ?_
    intro g' hg
    have e := dF1 hg
    subst e
    rw [hgc] at e1
    obtain ⟨f1, f2⟩ := Mth.flat_act (t := t) (p := p) (q := q) (u := u) (v := v) e1
    refine ⟨⟨t, 0, 0⟩, ⟨u, -q, v, p⟩, rfl, ?_, ?_, f2, ⟨e2.mono (by decide), (bq.mono (by decide)).neg, e3.mono (by decide), bp.mono (by decide)⟩⟩
    · unfold CanF
      rw [et]
    · conv => lhs; rw [eg]
      exact f1


end
end Kx

-- K12
set_option maxHeartbeats 2000000
namespace Kx
open PySem PySem.Spec PyProof.Rows L2
local macro_rules | `(tactic| walk_at "bd") => `(tactic| first | assumption | exact Bd.lit (by decide) | ((with_reducible apply Bd.mul) <;> walk_at "bd") | ((with_reducible apply Bd.add) <;> walk_at "bd") | ((with_reducible apply Bd.sub) <;> walk_at "bd") | ((with_reducible apply Bd.neg); walk_at "bd"))
local macro_rules | `(tactic| walk_at "mul") => `(tactic| first | assumption | exact mulok_l (Bd.mono (by walk_at "bd") (by omega)) | exact mulok_r (Bd.mono (by walk_at "bd") (by omega)) | ((with_reducible apply mulok); (focus walk_at "bd"); (focus walk_at "bd"); omega))
local macro_rules | `(tactic| walk_at "cond") => `(tactic| first | assumption | walk_at "mul" | exact cfd (by first | assumption | omega) (by walk_at "bd") (by omega) | omega | decide)
local macro_rules | `(tactic| walk_at "rv") => `(tactic| first | with_reducible exact rv_I0 | with_reducible exact rv_B0 | with_reducible exact rv_eqI | with_reducible exact rv_neI | with_reducible exact rv_eqF | with_reducible exact rv_neF | with_reducible exact rv_eqS | ((with_reducible apply rv_I); walk_at "cond") | ((with_reducible apply rv_ixT); exact rfl) | ((with_reducible apply rv_ixL); exact rfl) | with_reducible exact rv_isN | with_reducible exact rv_notN | exact rv_cat (Nat.le_of_ble_eq_true rfl))
local macro_rules | `(tactic| walk_at "ev") => `(tactic| first
  | ((with_reducible apply ev_var); exact rfl) | with_reducible exact ev_int | with_reducible exact ev_bl | with_reducible exact ev_str | with_reducible exact ev_non | exact ev_quad (by assumption)
  | ((with_reducible apply ev_op); (focus walk_at "ev"); (focus walk_at "ev"); (focus walk_at "rv"))
  | ((with_reducible apply ev_un); (focus walk_at "ev"); with_reducible exact ru_I)
  | ((with_reducible apply ev_tup); (focus walk_at "ea"); exact Nat.le_of_ble_eq_true rfl)
  | ((with_reducible apply ev_lst); (focus walk_at "ea"); exact Nat.le_of_ble_eq_true rfl)
  | ((with_reducible apply ev_call); (focus walk_at "ea"); (focus walk_at "call"))
  | ((with_reducible apply ev_cb); (focus walk_at "ea"); (focus walk_at "rc"))
  | ((with_reducible apply ev_andV); (focus walk_at "ev"); (intro hh_; (focus walk_at "ev")))
  | ((with_reducible apply ev_orV); (focus walk_at "ev"); (intro hh_; (focus walk_at "ev")))
  | ((with_reducible apply ev_chain); (focus walk_at "ev"); (focus walk_at "ev"); (focus walk_at "rv"); (intro hh_; (focus walk_at "ev")); (intro hh_; (focus walk_at "rv")))
  | ((with_reducible apply ev_notV); walk_at "ev")
  | ((with_reducible apply ev_cut2); walk_at "ev"))
local macro_rules | `(tactic| walk_at "ea") => `(tactic| first | with_reducible exact ea_nil | ((with_reducible apply ea_cons); (focus walk_at "ev"); (focus walk_at "ea")))
local macro_rules | `(tactic| walk_at "rc") => `(tactic| first | with_reducible exact rc_abs | with_reducible exact rc_intI | with_reducible exact rc_intB | with_reducible exact rc_lenL | with_reducible exact rc_tupOf | exact rc_isq (by assumption) (by assumption) | exact rc_isq (by omega) (by omega))
local macro_rules | `(tactic| walk_at "et") => `(tactic| first
  | ((with_reducible apply et_test); walk_at "ev")
  | ((with_reducible apply et_B); walk_at "ev")
  | ((with_reducible apply et_and); (focus walk_at "et"); (intro hh_; (focus walk_at "et")))
  | ((with_reducible apply et_or); (focus walk_at "et"); (intro hh_; (focus walk_at "et")))
  | ((with_reducible apply et_not); walk_at "et"))
local macro_rules | `(tactic| walk_at "tg") => `(tactic| first | with_reducible exact tg_name | ((with_reducible apply tg_tup); (focus walk_at "tgs"); exact rfl) | ((with_reducible apply tg_unl); (focus walk_at "tgs"); exact rfl))
local macro_rules | `(tactic| walk_at "tgs") => `(tactic| first | with_reducible exact tg_nil | ((with_reducible apply tg_cons); (focus walk_at "tg"); (focus walk_at "tgs")))
local macro_rules | `(tactic| walk_at "pre") => `(tactic| first | assumption | walk_at "bd" | exact Bd.mono (by walk_at "bd") (by omega) | omega | decide)

local macro_rules | `(tactic| walk_at "call") => `(tactic| ((with_reducible apply i_worth); all_goals (walk_at "pre")))

local macro_rules | `(tactic| walk_at "call") => `(tactic| ((with_reducible apply i_act); all_goals (walk_at "pre")))

local macro_rules | `(tactic| walk_at "call") => `(tactic| ((with_reducible apply i_discriminant); all_goals (walk_at "pre")))

local macro_rules | `(tactic| walk_at "call") => `(tactic| ((with_reducible apply i_scaled); all_goals (walk_at "pre")))

local macro_rules | `(tactic| walk_at "call") => `(tactic| ((with_reducible apply i_divided); all_goals (walk_at "pre")))

local macro_rules | `(tactic| walk_at "call") => `(tactic| ((with_reducible apply i_multiply); all_goals (walk_at "pre")))

local macro_rules | `(tactic| walk_at "call") => `(tactic| ((with_reducible apply i_determinant); all_goals (walk_at "pre")))

local macro_rules | `(tactic| walk_at "call") => `(tactic| ((with_reducible apply i_inverse); all_goals (walk_at "pre")))

local macro_rules | `(tactic| walk_at "call") => `(tactic| ((with_reducible apply i_floor_root); all_goals (walk_at "pre")))

local macro_rules | `(tactic| walk_at "call") => `(tactic| ((with_reducible apply i_is_square); all_goals (walk_at "pre")))

local macro_rules | `(tactic| walk_at "call") => `(tactic| ((with_reducible apply i_kind); all_goals (walk_at "pre")))

local macro_rules | `(tactic| walk_at "call") => `(tactic| ((with_reducible apply i_is_reduced_definite)))


local macro_rules | `(tactic| walk_at "call") => `(tactic| ((with_reducible apply i_measure); all_goals (walk_at "pre")))

local macro_rules | `(tactic| walk_at "call") => `(tactic| ((with_reducible apply i_content); all_goals (walk_at "pre")))

local macro_rules | `(tactic| walk_at "call") => `(tactic| ((with_reducible apply i_is_reduced_indefinite); all_goals (walk_at "pre")))

local macro_rules | `(tactic| walk_at "call") => `(tactic| ((with_reducible apply i_step_of); all_goals (walk_at "pre")))

local macro_rules | `(tactic| walk_at "call") => `(tactic| ((with_reducible apply i_law_root); all_goals (walk_at "pre")))

local macro_rules | `(tactic| walk_at "call") => `(tactic| ((with_reducible apply i_law_square); all_goals (walk_at "pre")))

local macro_rules | `(tactic| walk_at "call") => `(tactic| ((with_reducible apply i_law_kind); all_goals (walk_at "pre")))

local macro_rules | `(tactic| walk_at "call") => `(tactic| ((with_reducible apply i_law_is_reduced); all_goals (walk_at "pre")))

local macro_rules | `(tactic| walk_at "call") => `(tactic| ((with_reducible apply i_law_neighbour); all_goals (walk_at "pre")))

local macro_rules | `(tactic| walk_at "call") => `(tactic| ((with_reducible apply i_discF); assumption))
structure Sm (g : Mth.F3) : Prop where
  bd : BdF 40 g
  lo : -1300 ≤ Mth.dscF g
  hi : Mth.dscF g ≤ 1300
/-- the canonical form of a form of any kind -/
def IsCan (g C : Mth.F3) : Prop :=
  (Mth.dscF g < 0 ∧ ∃ m, Mth.detM m = 1 ∧ Mth.actF g m = C ∧ ((0 < g.a ∧ Mth.red C ∧ 0 < C.a) ∨ (g.a < 0 ∧ Mth.red (Mth.negF C) ∧ 0 < (Mth.negF C).a))) ∨ (Mth.dscF g = 0 ∧ CanF g C) ∨
  (0 < Mth.dscF g ∧ isSqB (Mth.dscF g) = true ∧ Mth.CanS (sI g) g C) ∨ (0 < Mth.dscF g ∧ isSqB (Mth.dscF g) = false ∧ Mth.CanI (sI g) g C)
theorem can_one {g C C' : Mth.F3} (hs : Mth.dscF g ≤ 1300) (h : IsCan g C) (h' : IsCan g C') : C = C' := by
  rcases h with ⟨d, m, m1, m2, m3⟩ | ⟨d, h⟩ | ⟨d, k, h⟩ | ⟨d, k, h⟩
  · rcases h' with ⟨_, n, n1, n2, n3⟩ | ⟨d', _⟩ | ⟨d', _⟩ | ⟨d', _⟩
    · have hM : Mth.actF C (Mth.mulM (Mth.invM m) n) = C' := by
        rw [← Mth.act_mul, ← m2, Mth.act_inv m1, n2]
      have hd : Mth.detM (Mth.mulM (Mth.invM m) n) = 1 := by
        rw [Mth.det_mul, Mth.det_inv, m1, n1]
        rfl
      rcases m3 with ⟨a1, a2, a3⟩ | ⟨a1, a2, a3⟩
      · rcases n3 with ⟨b1, b2, b3⟩ | ⟨b1, b2, b3⟩
        · rw [← hM]
          exact (Mth.red_unique a3 (by rw [hM]; exact b3) a2 (by rw [hM]; exact b2) hd).symm
        · omega
      · rcases n3 with ⟨b1, b2, b3⟩ | ⟨b1, b2, b3⟩
        · omega
        · have hN : Mth.actF (Mth.negF C) (Mth.mulM (Mth.invM m) n) = Mth.negF C' := by rw [Mth.act_neg, hM]
          have := Mth.red_unique a3 (by rw [hN]; exact b3) a2 (by rw [hN]; exact b2) hd
          rw [hN] at this
          rw [← Mth.neg_neg C, ← Mth.neg_neg C', this]
    · omega
    · omega
    · omega
  · rcases h' with ⟨d', _⟩ | ⟨d', h'⟩ | ⟨d', _⟩ | ⟨d', _⟩
    · omega
    · exact Eq.trans h (Eq.symm h')
    · omega
    · omega
  · rcases h' with ⟨d', _⟩ | ⟨d', _⟩ | ⟨_, k', h'⟩ | ⟨_, k', h'⟩
    · omega
    · omega
    · exact Mth.split_unique (spl_of d k hs).k0 h h'
    · rw [k] at k'
      cases k'
  · rcases h' with ⟨d', _⟩ | ⟨d', _⟩ | ⟨_, k', h'⟩ | ⟨_, k', h'⟩
    · omega
    · omega
    · rw [k] at k'
      cases k'
    · exact Mth.can_unique h h'
def mirM : Mth.M4 := ⟨1, 0, 0, -1⟩
def mirF (f : Mth.F3) : Mth.F3 := ⟨f.a, -f.b, f.c⟩
theorem mir_act (f : Mth.F3) : Mth.actF f mirM = mirF f := by
  ext <;> simp [Mth.actF, Mth.wvF, mirM, mirF]
theorem mir_sm {f : Mth.F3} (h : Sm f) : Sm (mirF f) := by
  have e : Mth.dscF (mirF f) = Mth.dscF f := by
    simp only [Mth.dscF, mirF]
    grind
  exact ⟨⟨h.bd.a, h.bd.b.neg, h.bd.c⟩, by rw [e]; exact h.lo, by rw [e]; exact h.hi⟩
section
variable {K : Fg} {l0 : Option Addr} {env : List Sl} {o : OS} {N : PN} {R : PR} {Bk Ct : PN} {tb tr : TS}
theorem s_case_yes {y z : Str} (h : z = y) (k : SD K l0 tb env o N R Bk Ct) : SD K l0 (fun D σ H => if decide (V.str z = V.str y) = true then tb D σ H else tr D σ H) env o N R Bk Ct := by
  subst h
  have e : (fun (D : Ends) (σ : L2.St) (H : Hp) => if decide (V.str z = V.str z) = true then tb D σ H else tr D σ H) = tb := by
    funext D σ H
    rw [if_pos (decide_eq_true rfl)]
  rw [e]
  exact k
theorem s_case_no {y z : Str} (h : z ≠ y) (k : SD K l0 tr env o N R Bk Ct) : SD K l0 (fun D σ H => if decide (V.str z = V.str y) = true then tb D σ H else tr D σ H) env o N R Bk Ct := by
  have e : (fun (D : Ends) (σ : L2.St) (H : Hp) => if decide (V.str z = V.str y) = true then tb D σ H else tr D σ H) = tr := by
    funext D σ H
    rw [decide_eq_false (fun q => h (V.str.inj q)), if_neg Bool.false_ne_true]
  rw [e]
  exact k
end

section
variable {P : Program} {w : World} {K : Fg} {mg : Str → Option Value} {base : Heap}

def Pre_canonical_form (ds : List PyData) : Prop := ∃ (g : Mth.F3), ds = [dF g] ∧ Sm g
def Post_canonical_form (ds : List PyData) (d : PyData) : Prop := ∀ (g : Mth.F3), ds = [dF g] → ∃ (C : Mth.F3) (m : Mth.M4), d = .tuple [dF C, dM m] ∧ IsCan g C ∧ Mth.actF g m = C ∧ Mth.detM m = 1 ∧ BdM 120000 m

theorem sc_canonical_form : FnScope ["form"] ["form"] (defScope (top 40)) := ⟨rfl, rfl, rfl, by decide +kernel, rfl, by decide +kernel, by decide +kernel⟩
theorem ok_canonical_form (T : Md K mg) (D : DefAt K mg "canonical_form" "canonical_form" (top 40) ["form"]) (Gcanonical_flat : Ok P w K mg base 5 "canonical_flat" ["form"] (spP K Pre_canonical_flat Post_canonical_flat)) (Gcanonical_split : Ok P w K mg base 5 "canonical_split" ["form"] (spP K Pre_canonical_split Post_canonical_split)) (Gcanonical : Ok P w K mg base 4 "canonical" ["form"] (spP K Pre_canonical Post_canonical)) (Greduce_definite : Ok P w K mg base 4 "reduce_definite" ["form"] (spP K Pre_reduce_definite Post_reduce_definite)) (Gkind : Ok P w K mg base 2 "kind" ["form"] (spD K R_kind)) : Ok P w K mg base 6 "canonical_form" ["form"] (spP K Pre_canonical_form Post_canonical_form) := by
  refine ok_rel D sc_canonical_form (fun ds h => by obtain ⟨g, rfl, _⟩ := h; rfl) fun f cdv A outer s H E hr => ?_
  refine ⟨_, (pss_cons (ps_match (pe_callO Gkind (hr.mono (by decide)) (by rfl) (pa_cons (pv 0) pa_nil)) (pm_cons (pss_one (ps_ret (pe_callO Greduce_definite (hr.mono (by decide)) (by rfl) (pa_cons (pv 0) pa_nil)))) (pm_cons (pss_one (ps_ret (pe_callO Gcanonical (hr.mono (by decide)) (by rfl) (pa_cons (pv 0) pa_nil)))) (pm_cons (pss_one (ps_ret (pe_callO Gcanonical_split (hr.mono (by decide)) (by rfl) (pa_cons (pv 0) pa_nil)))) pm_nil))))
      (pss_one (ps_ret (pe_callO Gcanonical_flat (hr.mono (by decide)) (by rfl) (pa_cons (pv 0) pa_nil))))), ?_⟩
  rintro _ ⟨g, rfl, h0⟩
  show SD K none _ [.d (dF g)] none _ _ _ _
  obtain ⟨bd, lo, hi⟩ := h0
  have hk : EvD K (tCall (spD K R_kind) [] E0 (tCons (tVar 0) tNil)) [.d (dF g)] none (.str (kn (Mth.dscF g))) := ev_call (ds := [dF g]) (ea_cons (ev_var rfl) ea_nil) (i_kind bd.a bd.b bd.c (show Mth.dscF g < 2 ^ 60 by omega))
  have fin : ∀ (C : Mth.F3) (m : Mth.M4), IsCan g C → Mth.actF g m = C → Mth.detM m = 1 → BdM 120000 m → Post_canonical_form [dF g] (.tuple [dF C, dM m]) := by
    intro C m a1 a2 a3 a4 g' hg
    have e := dF1 hg
    subst e
    exact ⟨C, m, rfl, a1, a2, a3, a4⟩
  by_cases hn : Mth.dscF g < 0
  · have ek : kn (Mth.dscF g) = "definite" := if_pos hn
    refine s_seq (M := fun _ _ => False) (s_match hk (s_case_yes ek ?_)) (fun _ _ z => z.elim)
    refine s_retR (er_callP' (by walk_at "ea") ⟨g, rfl, hn, lo, bd⟩ fun d hd => ?_)
    obtain ⟨C, m, rfl, c1, c2, c3, c4⟩ := hd g rfl
    exact fin C m (.inl ⟨hn, m, c3, c2, c1⟩) c2 c3 (c4.mono (by decide))
  · by_cases hz : Mth.dscF g = 0
    · have ek : kn (Mth.dscF g) = "flat" := by
        unfold kn
        rw [if_neg hn, if_pos hz]
      refine s_seq (M := fun e o => e = [.d (dF g)] ∧ o = none) (s_match hk (s_case_no (by rw [ek]; decide +kernel) (s_case_no (by rw [ek]; decide +kernel) (s_case_no (by rw [ek]; decide +kernel) (s_next ⟨rfl, rfl⟩))))) ?_
      rintro _ _ ⟨rfl, rfl⟩
      refine s_retR (er_callP' (by walk_at "ea") ⟨g, rfl, hz, bd⟩ fun d hd => ?_)
      obtain ⟨C, m, rfl, c1, c2, c3, c4⟩ := hd g rfl
      exact fin C m (.inr (.inl ⟨hz, c1⟩)) c2 c3 (c4.mono (by decide))
    · have hp : 0 < Mth.dscF g := by omega
      cases hs : isSqB (Mth.dscF g) with
      | true =>
        have ek : kn (Mth.dscF g) = "split" := by
          unfold kn
          rw [if_neg hn, if_neg hz, if_pos hs]
        refine s_seq (M := fun _ _ => False) (s_match hk (s_case_no (by rw [ek]; decide +kernel) (s_case_no (by rw [ek]; decide +kernel) (s_case_yes ek ?_)))) (fun _ _ z => z.elim)
        refine s_retR (er_callP' (by walk_at "ea") ⟨g, rfl, spl_of hp hs hi, bd⟩ fun d hd => ?_)
        obtain ⟨C, m, rfl, c1, c2, c3, c4⟩ := hd g rfl
        exact fin C m (.inr (.inr (.inl ⟨hp, hs, c1⟩))) c2 c3 (c4.mono (by decide))
      | false =>
        have ek : kn (Mth.dscF g) = "indefinite" := by
          unfold kn
          rw [if_neg hn, if_neg hz, if_neg (by rw [hs]; decide)]
        refine s_seq (M := fun _ _ => False) (s_match hk (s_case_no (by rw [ek]; decide +kernel) (s_case_yes ek ?_))) (fun _ _ z => z.elim)
        refine s_retR (er_callP' (by walk_at "ea") ⟨g, rfl, rt_of hp hs hi, bd⟩ fun d hd => ?_)
        obtain ⟨C, m, rfl, c1, c2, c3, c4⟩ := hd g rfl
        exact fin C m (.inr (.inr (.inr ⟨hp, hs, c1⟩))) c2 c3 (c4.mono (by decide))


def Pre_proper_change (ds : List PyData) : Prop := ∃ (f : Mth.F3) (g : Mth.F3), ds = [dF f, dF g] ∧ Sm f ∧ Sm g
def Post_proper_change (ds : List PyData) (d : PyData) : Prop := ∀ (f : Mth.F3) (g : Mth.F3), ds = [dF f, dF g] → ∃ C1 C2, IsCan f C1 ∧ IsCan g C2 ∧ ((C1 = C2 ∧ ∃ m, d = dM m ∧ Mth.detM m = 1 ∧ Mth.actF f m = g ∧ BdM 240001 m) ∨ (C1 ≠ C2 ∧ d = .none))

theorem sc_proper_change : FnScope ["form", "other", "first", "m", "second", "n"] ["form", "other"] (defScope (top 41)) := ⟨rfl, rfl, rfl, by decide +kernel, rfl, by decide +kernel, by decide +kernel⟩
theorem ok_proper_change (T : Md K mg) (D : DefAt K mg "proper_change" "proper_change" (top 41) ["form", "other"]) (Gmultiply : Ok P w K mg base 1 "multiply" ["m", "n"] (spD K R_multiply)) (Ginverse : Ok P w K mg base 2 "inverse" ["m"] (spD K R_inverse)) (Gcanonical_form : Ok P w K mg base 6 "canonical_form" ["form"] (spP K Pre_canonical_form Post_canonical_form)) : Ok P w K mg base 7 "proper_change" ["form", "other"] (spP K Pre_proper_change Post_proper_change) := by
  refine ok_rel D sc_proper_change (fun ds h => by obtain ⟨f, g, rfl, _⟩ := h; rfl) fun f cdv A outer s H E hr => ?_
  refine ⟨_, (pss_cons (ps_asg (pe_callO Gcanonical_form (hr.mono (by decide)) (by rfl) (pa_cons (pv 0) pa_nil)) (pg_tupK (K := K) 2 (by exact rfl) rfl (pgs_cons (pg_name (i := 2) sc_proper_change.nd rfl (Or.inl rfl)) (pgs_cons (pg_name (i := 3) sc_proper_change.nd rfl (Or.inl rfl)) pgs_nil)) (by rfl) (by rfl)))
      (pss_cons (ps_asg (pe_callO Gcanonical_form (hr.mono (by decide)) (by rfl) (pa_cons (pv 1) pa_nil)) (pg_tupK (K := K) 2 (by exact rfl) rfl (pgs_cons (pg_name (i := 4) sc_proper_change.nd rfl (Or.inl rfl)) (pgs_cons (pg_name (i := 5) sc_proper_change.nd rfl (Or.inl rfl)) pgs_nil)) (by rfl) (by rfl)))
      (pss_cons (ps_if (pt_cmpR (op_neDK (K := K) (by exact rfl) hr.units) (pv 2) (pv 4) (nomark _)) (pss_one (ps_ret pe_non)) pss_nil)
      (pss_one (ps_ret (pe_callO Gmultiply (hr.mono (by decide)) (by rfl) (pa_cons (pv 3) (pa_cons (pe_callO Ginverse (hr.mono (by decide)) (by rfl) (pa_cons (pv 5) pa_nil)) pa_nil)))))))), ?_⟩
  rintro _ ⟨f, g, rfl, h0, h1⟩
  show SD K none _ [.d (dF f), .d (dF g), .no, .no, .no, .no] none _ _ _ _
  refine q_asgR (er_callP' (by walk_at "ea") ⟨f, rfl, h0⟩ fun d hd => ?_)
  obtain ⟨C1, m, rfl, a1, a2, a3, a4⟩ := hd f rfl
  refine ⟨_, tg_tup (tg_cons tg_name (tg_cons tg_name tg_nil)) rfl, ?_⟩
  refine q_asgR (er_callP' (by walk_at "ea") ⟨g, rfl, h1⟩ fun d hd => ?_)
  obtain ⟨C2, n, rfl, b1, b2, b3, b4⟩ := hd g rfl
  refine ⟨_, tg_tup (tg_cons tg_name (tg_cons tg_name tg_nil)) rfl, ?_⟩
  refine s_seq (M := fun e o => e = [.d (dF f), .d (dF g), .d (dF C1), .d (dM m), .d (dF C2), .d (dM n)] ∧ o = none ∧ C1 = C2) (s_if (b := !decide (C1.a = C2.a ∧ C1.b = C2.b ∧ C1.c = C2.c)) (by walk_at "et") (fun hh => ?_) fun hh => ?_) ?_
  · have hne : C1 ≠ C2 := fun z => by
      simp [z] at hh
    refine s_ret (by walk_at "ev") ?_
    intro f' g' hg
    obtain ⟨e1, e2⟩ := dF2 hg
    subst e1 e2
    exact ⟨C1, C2, a1, b1, .inr ⟨hne, rfl⟩⟩
  · have he : C1 = C2 := by
      simp at hh
      exact Mth.F3.ext hh.1 hh.2.1 hh.2.2
    exact s_next ⟨rfl, rfl, he⟩
  rintro _ _ ⟨rfl, rfl, he⟩
  have bi := b4.inv
  refine s_ret (d := dM (Mth.mulM m (Mth.invM n))) (ev_call (ds := [dM m, dM (Mth.invM n)]) (ea_cons (ev_var rfl) (ea_cons (ev_call (ds := [dM n]) (by walk_at "ea") (i_inverse b4.p b4.q b4.r b4.s (by omega) b3)) ea_nil)) (i_mulM a4 bi (by omega))) ?_
  intro f' g' hg
  obtain ⟨e1, e2⟩ := dF2 hg
  subst e1 e2
  refine ⟨C1, C2, a1, b1, .inl ⟨he, _, rfl, ?_, ?_, (a4.mul bi).mono (by decide)⟩⟩
  · rw [Mth.det_mul, Mth.det_inv, a3, b3]
    rfl
  · rw [← Mth.act_mul, a2, he, ← b2, Mth.act_inv b3]


def Pre_mirrored_change (ds : List PyData) : Prop := ∃ (f : Mth.F3) (g : Mth.F3), ds = [dF f, dF g] ∧ Sm f ∧ Sm g
def Post_mirrored_change (ds : List PyData) (d : PyData) : Prop := ∀ (f : Mth.F3) (g : Mth.F3), ds = [dF f, dF g] → ∃ C1 C2, IsCan (mirF f) C1 ∧ IsCan g C2 ∧ ((C1 = C2 ∧ ∃ m, d = dM m ∧ Mth.detM m = -1 ∧ Mth.actF f m = g ∧ BdM 240010 m) ∨ (C1 ≠ C2 ∧ d = .none))

theorem sc_mirrored_change : FnScope ["form", "other", "found"] ["form", "other"] (defScope (top 42)) := ⟨rfl, rfl, rfl, by decide +kernel, rfl, by decide +kernel, by decide +kernel⟩
theorem ok_mirrored_change (T : Md K mg) (D : DefAt K mg "mirrored_change" "mirrored_change" (top 42) ["form", "other"]) (Gmultiply : Ok P w K mg base 1 "multiply" ["m", "n"] (spD K R_multiply)) (Gproper_change : Ok P w K mg base 7 "proper_change" ["form", "other"] (spP K Pre_proper_change Post_proper_change)) (Gact : Ok P w K mg base 2 "act" ["form", "m"] (spD K R_act)) : Ok P w K mg base 8 "mirrored_change" ["form", "other"] (spP K Pre_mirrored_change Post_mirrored_change) := by
  obtain ⟨aM, hM, sM⟩ := T.mirror
  refine ok_rel D sc_mirrored_change (fun ds h => by obtain ⟨f, g, rfl, _⟩ := h; rfl) fun f cdv A outer s H E hr => ?_
  refine ⟨_, (pss_cons (ps_set (i := 2) sc_mirrored_change.nd rfl (Or.inl rfl) (pe_callO Gproper_change (hr.mono (by decide)) (by rfl) (pa_cons (pe_callO Gact (hr.mono (by decide)) (by rfl) (pa_cons (pv 0) (pa_cons (pe_glob (v := .ref aM) (by rfl) hM rfl) pa_nil))) (pa_cons (pv 1) pa_nil))))
      (pss_cons (ps_if (pt_cmpR op_isN (pv 2) pe_non (nomark _)) (pss_one (ps_ret pe_non)) pss_nil)
      (pss_one (ps_ret (pe_callO Gmultiply (hr.mono (by decide)) (by rfl) (pa_cons (pe_glob (v := .ref aM) (by rfl) hM rfl) (pa_cons (pv 2) pa_nil))))))), ?_⟩
  rintro _ ⟨f, g, rfl, h0, h1⟩
  show SD K none _ [.d (dF f), .d (dF g), .no] none _ _ _ _
  have bm : BdM 2 mirM := ⟨Bd.of (by decide), Bd.of (by decide), Bd.of (by decide), Bd.of (by decide)⟩
  refine q_asgR (er_callP' (ds := [dF (mirF f), dF g]) (ea_cons ?_ (ea_cons (ev_var rfl) ea_nil)) ⟨mirF f, g, rfl, mir_sm h0, h1⟩ fun d hd => ?_)
  · rw [← mir_act]
    exact ev_call (ds := [dF f, dM mirM]) (ea_cons (ev_var rfl) (ea_cons (ev_quad sM) ea_nil)) (i_actM h0.bd bm (by omega))
  obtain ⟨C1, C2, a1, a2, a3⟩ := hd _ _ rfl
  refine ⟨_, tg_name, ?_⟩
  rcases a3 with ⟨he, m, rfl, m1, m2, m3⟩ | ⟨hne, rfl⟩
  · refine s_seq (M := fun e o => e = [.d (dF f), .d (dF g), .d (dM m)] ∧ o = none) (s_if (b := false) (et_test (EvD.is (ev_op (ev_var rfl) ev_non rv_isN) rfl)) (fun z => nomatch z) fun _ => s_next ⟨rfl, rfl⟩) ?_
    rintro _ _ ⟨rfl, rfl⟩
    refine s_ret (d := dM (Mth.mulM mirM m)) (ev_call (ds := [dM mirM, dM m]) (ea_cons (ev_quad sM) (ea_cons (ev_var rfl) ea_nil)) (i_mulM bm m3 (by omega))) ?_
    intro f' g' hg
    obtain ⟨e1, e2⟩ := dF2 hg
    subst e1 e2
    refine ⟨C1, C2, a1, a2, .inl ⟨he, _, rfl, ?_, ?_, (bm.mul m3).mono (by decide)⟩⟩
    · rw [Mth.det_mul, m1]
      rfl
    · rw [← Mth.act_mul, mir_act, m2]
  · refine s_seq (M := fun _ _ => False) (s_if (b := true) (et_test (EvD.is (ev_op (ev_var rfl) ev_non rv_isN) rfl)) (fun _ => ?_) fun z => nomatch z) (fun _ _ z => z.elim)
    refine s_ret (by walk_at "ev") ?_
    intro f' g' hg
    obtain ⟨e1, e2⟩ := dF2 hg
    subst e1 e2
    exact ⟨C1, C2, a1, a2, .inr ⟨hne, rfl⟩⟩


end
end Kx

-- K13
set_option maxHeartbeats 2000000
namespace Kx
open PySem PySem.Spec PyProof.Rows L2
local macro_rules | `(tactic| walk_at "bd") => `(tactic| first | assumption | exact Bd.lit (by decide) | ((with_reducible apply Bd.mul) <;> walk_at "bd") | ((with_reducible apply Bd.add) <;> walk_at "bd") | ((with_reducible apply Bd.sub) <;> walk_at "bd") | ((with_reducible apply Bd.neg); walk_at "bd"))
local macro_rules | `(tactic| walk_at "mul") => `(tactic| first | assumption | exact mulok_l (Bd.mono (by walk_at "bd") (by omega)) | exact mulok_r (Bd.mono (by walk_at "bd") (by omega)) | ((with_reducible apply mulok); (focus walk_at "bd"); (focus walk_at "bd"); omega))
local macro_rules | `(tactic| walk_at "cond") => `(tactic| first | assumption | walk_at "mul" | exact cfd (by first | assumption | omega) (by walk_at "bd") (by omega) | omega | decide)
local macro_rules | `(tactic| walk_at "rv") => `(tactic| first | with_reducible exact rv_I0 | with_reducible exact rv_B0 | with_reducible exact rv_eqI | with_reducible exact rv_neI | with_reducible exact rv_eqF | with_reducible exact rv_neF | with_reducible exact rv_eqS | ((with_reducible apply rv_I); walk_at "cond") | ((with_reducible apply rv_ixT); exact rfl) | ((with_reducible apply rv_ixL); exact rfl) | with_reducible exact rv_isN | with_reducible exact rv_notN | exact rv_cat (Nat.le_of_ble_eq_true rfl))
local macro_rules | `(tactic| walk_at "ev") => `(tactic| first
  | ((with_reducible apply ev_var); exact rfl) | with_reducible exact ev_int | with_reducible exact ev_bl | with_reducible exact ev_str | with_reducible exact ev_non | exact ev_quad (by assumption)
  | ((with_reducible apply ev_op); (focus walk_at "ev"); (focus walk_at "ev"); (focus walk_at "rv"))
  | ((with_reducible apply ev_un); (focus walk_at "ev"); with_reducible exact ru_I)
  | ((with_reducible apply ev_tup); (focus walk_at "ea"); exact Nat.le_of_ble_eq_true rfl)
  | ((with_reducible apply ev_lst); (focus walk_at "ea"); exact Nat.le_of_ble_eq_true rfl)
  | ((with_reducible apply ev_call); (focus walk_at "ea"); (focus walk_at "call"))
  | ((with_reducible apply ev_cb); (focus walk_at "ea"); (focus walk_at "rc"))
  | ((with_reducible apply ev_andV); (focus walk_at "ev"); (intro hh_; (focus walk_at "ev")))
  | ((with_reducible apply ev_orV); (focus walk_at "ev"); (intro hh_; (focus walk_at "ev")))
  | ((with_reducible apply ev_chain); (focus walk_at "ev"); (focus walk_at "ev"); (focus walk_at "rv"); (intro hh_; (focus walk_at "ev")); (intro hh_; (focus walk_at "rv")))
  | ((with_reducible apply ev_notV); walk_at "ev")
  | ((with_reducible apply ev_cut2); walk_at "ev"))
local macro_rules | `(tactic| walk_at "ea") => `(tactic| first | with_reducible exact ea_nil | ((with_reducible apply ea_cons); (focus walk_at "ev"); (focus walk_at "ea")))
local macro_rules | `(tactic| walk_at "rc") => `(tactic| first | with_reducible exact rc_abs | with_reducible exact rc_intI | with_reducible exact rc_intB | with_reducible exact rc_lenL | with_reducible exact rc_tupOf | exact rc_isq (by assumption) (by assumption) | exact rc_isq (by omega) (by omega))
local macro_rules | `(tactic| walk_at "et") => `(tactic| first
  | ((with_reducible apply et_test); walk_at "ev")
  | ((with_reducible apply et_B); walk_at "ev")
  | ((with_reducible apply et_and); (focus walk_at "et"); (intro hh_; (focus walk_at "et")))
  | ((with_reducible apply et_or); (focus walk_at "et"); (intro hh_; (focus walk_at "et")))
  | ((with_reducible apply et_not); walk_at "et"))
local macro_rules | `(tactic| walk_at "tg") => `(tactic| first | with_reducible exact tg_name | ((with_reducible apply tg_tup); (focus walk_at "tgs"); exact rfl) | ((with_reducible apply tg_unl); (focus walk_at "tgs"); exact rfl))
local macro_rules | `(tactic| walk_at "tgs") => `(tactic| first | with_reducible exact tg_nil | ((with_reducible apply tg_cons); (focus walk_at "tg"); (focus walk_at "tgs")))
local macro_rules | `(tactic| walk_at "pre") => `(tactic| first | assumption | walk_at "bd" | exact Bd.mono (by walk_at "bd") (by omega) | omega | decide)

local macro_rules | `(tactic| walk_at "call") => `(tactic| ((with_reducible apply i_worth); all_goals (walk_at "pre")))

local macro_rules | `(tactic| walk_at "call") => `(tactic| ((with_reducible apply i_act); all_goals (walk_at "pre")))

local macro_rules | `(tactic| walk_at "call") => `(tactic| ((with_reducible apply i_discriminant); all_goals (walk_at "pre")))

local macro_rules | `(tactic| walk_at "call") => `(tactic| ((with_reducible apply i_scaled); all_goals (walk_at "pre")))

local macro_rules | `(tactic| walk_at "call") => `(tactic| ((with_reducible apply i_divided); all_goals (walk_at "pre")))

local macro_rules | `(tactic| walk_at "call") => `(tactic| ((with_reducible apply i_multiply); all_goals (walk_at "pre")))

local macro_rules | `(tactic| walk_at "call") => `(tactic| ((with_reducible apply i_determinant); all_goals (walk_at "pre")))

local macro_rules | `(tactic| walk_at "call") => `(tactic| ((with_reducible apply i_inverse); all_goals (walk_at "pre")))

local macro_rules | `(tactic| walk_at "call") => `(tactic| ((with_reducible apply i_floor_root); all_goals (walk_at "pre")))

local macro_rules | `(tactic| walk_at "call") => `(tactic| ((with_reducible apply i_is_square); all_goals (walk_at "pre")))

local macro_rules | `(tactic| walk_at "call") => `(tactic| ((with_reducible apply i_kind); all_goals (walk_at "pre")))

local macro_rules | `(tactic| walk_at "call") => `(tactic| ((with_reducible apply i_is_reduced_definite)))


local macro_rules | `(tactic| walk_at "call") => `(tactic| ((with_reducible apply i_measure); all_goals (walk_at "pre")))

local macro_rules | `(tactic| walk_at "call") => `(tactic| ((with_reducible apply i_content); all_goals (walk_at "pre")))

local macro_rules | `(tactic| walk_at "call") => `(tactic| ((with_reducible apply i_is_reduced_indefinite); all_goals (walk_at "pre")))

local macro_rules | `(tactic| walk_at "call") => `(tactic| ((with_reducible apply i_step_of); all_goals (walk_at "pre")))

local macro_rules | `(tactic| walk_at "call") => `(tactic| ((with_reducible apply i_law_root); all_goals (walk_at "pre")))

local macro_rules | `(tactic| walk_at "call") => `(tactic| ((with_reducible apply i_law_square); all_goals (walk_at "pre")))

local macro_rules | `(tactic| walk_at "call") => `(tactic| ((with_reducible apply i_law_kind); all_goals (walk_at "pre")))

local macro_rules | `(tactic| walk_at "call") => `(tactic| ((with_reducible apply i_law_is_reduced); all_goals (walk_at "pre")))

local macro_rules | `(tactic| walk_at "call") => `(tactic| ((with_reducible apply i_law_neighbour); all_goals (walk_at "pre")))

local macro_rules | `(tactic| walk_at "call") => `(tactic| ((with_reducible apply i_discF); assumption))

section
variable {P : Program} {w : World} {K : Fg} {mg : Str → Option Value} {base : Heap}

def R_law_worth (ds : List PyData) (d : PyData) : Prop := ∃ (a : Int) (b : Int) (c : Int) (x : Int) (y : Int) (n1 : Nat) (n2 : Nat) (n3 : Nat) (m1 : Nat) (m2 : Nat), ds = [fm a b c, .int x, .int y] ∧ Bd n1 a ∧ Bd n2 b ∧ Bd n3 c ∧ Bd m1 x ∧ Bd m2 y ∧ (n1 + m1 + m1 ≤ 900000 ∧ n2 + m1 + m2 ≤ 900000 ∧ n3 + m2 + m2 ≤ 900000) ∧ d = .int (wv a b c x y)
theorem i_law_worth {a : Int} {b : Int} {c : Int} {x : Int} {y : Int} {n1 : Nat} {n2 : Nat} {n3 : Nat} {m1 : Nat} {m2 : Nat} (hp0 : Bd n1 a) (hp1 : Bd n2 b) (hp2 : Bd n3 c) (hp3 : Bd m1 x) (hp4 : Bd m2 y) (hp5 : n1 + m1 + m1 ≤ 900000 ∧ n2 + m1 + m2 ≤ 900000 ∧ n3 + m2 + m2 ≤ 900000) : R_law_worth [fm a b c, .int x, .int y] (.int (wv a b c x y)) := ⟨_, _, _, _, _, _, _, _, _, _, rfl, hp0, hp1, hp2, hp3, hp4, hp5, rfl⟩

theorem sc_law_worth : FnScope ["_law_form_here", "_law_x", "_law_y"] ["_law_form_here", "_law_x", "_law_y"] (defScope (top 52)) := ⟨rfl, rfl, rfl, by decide +kernel, rfl, by decide +kernel, by decide +kernel⟩
theorem ok_law_worth (T : Md K mg) (D : DefAt K mg "_law_worth" "_law_worth" (top 52) ["_law_form_here", "_law_x", "_law_y"])  : Ok P w K mg base 1 "_law_worth" ["_law_form_here", "_law_x", "_law_y"] (spD K R_law_worth) := by
  refine ok_pure D sc_law_worth (fun ds d h => by obtain ⟨a, b, c, x, y, n1, n2, n3, m1, m2, rfl, _⟩ := h; rfl) fun f cdv A outer s H E hr => ?_
  refine ⟨_, (pss_one (ps_ret (pe_op op_add (pe_op op_add (pe_op op_mulX (pe_op op_mulX (pe_ix (ix_tupK (K := K) (by exact rfl)) (pv 0) pe_int (fun _ _ => rfl)) (pv 1)) (pv 1)) (pe_op op_mulX (pe_op op_mulX (pe_ix (ix_tupK (K := K) (by exact rfl)) (pv 0) pe_int (fun _ _ => rfl)) (pv 1)) (pv 2))) (pe_op op_mulX (pe_op op_mulX (pe_ix (ix_tupK (K := K) (by exact rfl)) (pv 0) pe_int (fun _ _ => rfl)) (pv 2)) (pv 2))))), ?_⟩
  rintro _ _ ⟨a, b, c, x, y, n1, n2, n3, m1, m2, rfl, h0, h1, h2, h3, h4, h5, rfl⟩
  show SD K none _ [.d (fm a b c), .d (.int x), .d (.int y)] none _ _ _ _
  obtain ⟨h6, h7, h8⟩ := h5
  exact s_ret (by walk_at "ev") rfl

local macro_rules | `(tactic| walk_at "call") => `(tactic| ((with_reducible apply i_law_worth); all_goals (walk_at "pre")))

def R_law_act (ds : List PyData) (d : PyData) : Prop := ∃ (f : Mth.F3) (m : Mth.M4) (n : Nat) (k : Nat), ds = [dF f, dM m] ∧ BdF n f ∧ BdM k m ∧ n + k + k ≤ 800000 ∧ d = dF (Mth.actF f m)
theorem i_law_act {f : Mth.F3} {m : Mth.M4} {n : Nat} {k : Nat} (hp0 : BdF n f) (hp1 : BdM k m) (hp2 : n + k + k ≤ 800000) : R_law_act [dF f, dM m] (dF (Mth.actF f m)) := ⟨_, _, _, _, rfl, hp0, hp1, hp2, rfl⟩

theorem sc_law_act : FnScope ["_law_form_here", "_law_m", "_law_first", "_law_last"] ["_law_form_here", "_law_m"] (defScope (top 53)) := ⟨rfl, rfl, rfl, by decide +kernel, rfl, by decide +kernel, by decide +kernel⟩
theorem ok_law_act (T : Md K mg) (D : DefAt K mg "_law_act" "_law_act" (top 53) ["_law_form_here", "_law_m"]) (G_law_worth : Ok P w K mg base 1 "_law_worth" ["_law_form_here", "_law_x", "_law_y"] (spD K R_law_worth)) : Ok P w K mg base 2 "_law_act" ["_law_form_here", "_law_m"] (spD K R_law_act) := by
  refine ok_pure D sc_law_act (fun ds d h => by obtain ⟨f, m, n, k, rfl, _⟩ := h; rfl) fun f cdv A outer s H E hr => ?_
  refine ⟨_, (pss_cons (ps_set (i := 2) sc_law_act.nd rfl (Or.inl rfl) (pe_callO G_law_worth (hr.mono (by decide)) (by rfl) (pa_cons (pv 0) (pa_cons (pe_ix (ix_tupK (K := K) (by exact rfl)) (pv 1) pe_int (fun _ _ => rfl)) (pa_cons (pe_ix (ix_tupK (K := K) (by exact rfl)) (pv 1) pe_int (fun _ _ => rfl)) pa_nil)))))
      (pss_cons (ps_set (i := 3) sc_law_act.nd rfl (Or.inl rfl) (pe_callO G_law_worth (hr.mono (by decide)) (by rfl) (pa_cons (pv 0) (pa_cons (pe_ix (ix_tupK (K := K) (by exact rfl)) (pv 1) pe_int (fun _ _ => rfl)) (pa_cons (pe_ix (ix_tupK (K := K) (by exact rfl)) (pv 1) pe_int (fun _ _ => rfl)) pa_nil)))))
      (pss_one (ps_ret (pe_tup (pa_cons (pv 2) (pa_cons (pe_op op_sub (pe_op op_sub (pe_callO G_law_worth (hr.mono (by decide)) (by rfl) (pa_cons (pv 0) (pa_cons (pe_op op_add (pe_ix (ix_tupK (K := K) (by exact rfl)) (pv 1) pe_int (fun _ _ => rfl)) (pe_ix (ix_tupK (K := K) (by exact rfl)) (pv 1) pe_int (fun _ _ => rfl))) (pa_cons (pe_op op_add (pe_ix (ix_tupK (K := K) (by exact rfl)) (pv 1) pe_int (fun _ _ => rfl)) (pe_ix (ix_tupK (K := K) (by exact rfl)) (pv 1) pe_int (fun _ _ => rfl))) pa_nil)))) (pv 2)) (pv 3)) (pa_cons (pv 3) pa_nil)))))))), ?_⟩
  rintro _ _ ⟨f, m, n, k, rfl, h0, h1, h2, rfl⟩
  show SD K none _ [.d (dF f), .d (dM m), .no, .no] none _ _ _ _
  have b1 := h0.a
  have b2 := h0.b
  have b3 := h0.c
  have c1 := h1.p
  have c2 := h1.q
  have c3 := h1.r
  have c4 := h1.s
  refine q_asg (d := .int (Mth.wvF f m.p m.r)) (ev_call (ds := [dF f, .int m.p, .int m.r]) (by walk_at "ea") (i_law_worth b1 b2 b3 c1 c3 (by omega))) ?_
  refine q_asg (d := .int (Mth.wvF f m.q m.s)) (ev_call (ds := [dF f, .int m.q, .int m.s]) (by walk_at "ea") (i_law_worth b1 b2 b3 c2 c4 (by omega))) ?_
  refine s_ret (d := .tuple [.int (Mth.wvF f m.p m.r), .int (Mth.wvF f (m.p + m.q) (m.r + m.s) - Mth.wvF f m.p m.r - Mth.wvF f m.q m.s), .int (Mth.wvF f m.q m.s)]) (ev_tup (ea_cons (ev_var rfl) (ea_cons (ev_op (ev_op (ev_call (ds := [dF f, .int (m.p + m.q), .int (m.r + m.s)]) (by walk_at "ea") (i_law_worth b1 b2 b3 (c1.add c2) (c3.add c4) (by omega))) (ev_var rfl) rv_I0) (ev_var rfl) rv_I0) (ea_cons (ev_var rfl) ea_nil))) (Nat.le_of_ble_eq_true rfl)) ?_
  rw [Mth.act_sum]
  rfl

local macro_rules | `(tactic| walk_at "call") => `(tactic| ((with_reducible apply i_law_act); all_goals (walk_at "pre")))

def R_law_mul (ds : List PyData) (d : PyData) : Prop := ∃ (m : Mth.M4) (n : Mth.M4) (k : Nat) (j : Nat), ds = [dM m, dM n] ∧ BdM k m ∧ BdM j n ∧ k + j ≤ 900000 ∧ d = dM (Mth.mulM m n)
theorem i_law_mul {m : Mth.M4} {n : Mth.M4} {k : Nat} {j : Nat} (hp0 : BdM k m) (hp1 : BdM j n) (hp2 : k + j ≤ 900000) : R_law_mul [dM m, dM n] (dM (Mth.mulM m n)) := ⟨_, _, _, _, rfl, hp0, hp1, hp2, rfl⟩

theorem sc_law_mul : FnScope ["_law_m", "_law_n", "_law_top"] ["_law_m", "_law_n"] (defScope (top 50)) := ⟨rfl, rfl, rfl, by decide +kernel, rfl, by decide +kernel, by decide +kernel⟩
theorem ok_law_mul (T : Md K mg) (D : DefAt K mg "_law_mul" "_law_mul" (top 50) ["_law_m", "_law_n"])  : Ok P w K mg base 1 "_law_mul" ["_law_m", "_law_n"] (spD K R_law_mul) := by
  refine ok_pure D sc_law_mul (fun ds d h => by obtain ⟨m, n, k, j, rfl, _⟩ := h; rfl) fun f cdv A outer s H E hr => ?_
  refine ⟨_, (pss_cons (ps_set (i := 2) sc_law_mul.nd rfl (Or.inl rfl) (pe_lst (pa_cons (pe_op op_add (pe_op op_mulX (pe_ix (ix_tupK (K := K) (by exact rfl)) (pv 0) pe_int (fun _ _ => rfl)) (pe_ix (ix_tupK (K := K) (by exact rfl)) (pv 1) pe_int (fun _ _ => rfl))) (pe_op op_mulX (pe_ix (ix_tupK (K := K) (by exact rfl)) (pv 0) pe_int (fun _ _ => rfl)) (pe_ix (ix_tupK (K := K) (by exact rfl)) (pv 1) pe_int (fun _ _ => rfl)))) (pa_cons (pe_op op_add (pe_op op_mulX (pe_ix (ix_tupK (K := K) (by exact rfl)) (pv 0) pe_int (fun _ _ => rfl)) (pe_ix (ix_tupK (K := K) (by exact rfl)) (pv 1) pe_int (fun _ _ => rfl))) (pe_op op_mulX (pe_ix (ix_tupK (K := K) (by exact rfl)) (pv 0) pe_int (fun _ _ => rfl)) (pe_ix (ix_tupK (K := K) (by exact rfl)) (pv 1) pe_int (fun _ _ => rfl)))) pa_nil))))
      (pss_one (ps_ret (pe_callTy (cr_tupK (K := K) (by exact rfl)) (by rfl) T.tuple PyProof.Rows.boot_tuple (pa_cons (pe_op (op_catK (K := K) (by exact rfl)) (pv 2) (pe_lst (pa_cons (pe_op op_add (pe_op op_mulX (pe_ix (ix_tupK (K := K) (by exact rfl)) (pv 0) pe_int (fun _ _ => rfl)) (pe_ix (ix_tupK (K := K) (by exact rfl)) (pv 1) pe_int (fun _ _ => rfl))) (pe_op op_mulX (pe_ix (ix_tupK (K := K) (by exact rfl)) (pv 0) pe_int (fun _ _ => rfl)) (pe_ix (ix_tupK (K := K) (by exact rfl)) (pv 1) pe_int (fun _ _ => rfl)))) (pa_cons (pe_op op_add (pe_op op_mulX (pe_ix (ix_tupK (K := K) (by exact rfl)) (pv 0) pe_int (fun _ _ => rfl)) (pe_ix (ix_tupK (K := K) (by exact rfl)) (pv 1) pe_int (fun _ _ => rfl))) (pe_op op_mulX (pe_ix (ix_tupK (K := K) (by exact rfl)) (pv 0) pe_int (fun _ _ => rfl)) (pe_ix (ix_tupK (K := K) (by exact rfl)) (pv 1) pe_int (fun _ _ => rfl)))) pa_nil)))) pa_nil))))), ?_⟩
  rintro _ _ ⟨m, n, k, j, rfl, h0, h1, h2, rfl⟩
  show SD K none _ [.d (dM m), .d (dM n), .no] none _ _ _ _
  have b1 := h0.p
  have b2 := h0.q
  have b3 := h0.r
  have b4 := h0.s
  have c1 := h1.p
  have c2 := h1.q
  have c3 := h1.r
  have c4 := h1.s
  refine q_asg (by walk_at "ev") ?_
  refine s_ret (by walk_at "ev") ?_
  rfl

local macro_rules | `(tactic| walk_at "call") => `(tactic| ((with_reducible apply i_law_mul); all_goals (walk_at "pre")))

def R_law_measure (ds : List PyData) (d : PyData) : Prop := ∃ (a : Int) (b : Int), ds = [.int a, .int b] ∧ Bd 44 a ∧ Bd 44 b ∧ d = .int ((Int.gcd a b : Nat) : Int)
theorem i_law_measure {a : Int} {b : Int} (hp0 : Bd 44 a) (hp1 : Bd 44 b) : R_law_measure [.int a, .int b] (.int ((Int.gcd a b : Nat) : Int)) := ⟨_, _, rfl, hp0, hp1, rfl⟩

def LmI (a b : Int) (k : Nat) (e : List Sl) (o : OS) : Prop := ∃ (x y : Nat) (z : Sl), e = [.d (.int (x : Int)), .d (.int (y : Int)), z] ∧ o = none ∧ Nat.gcd x y = Int.gcd a b ∧ ((k = 0 ∧ x < 2 ^ 44 ∧ y < 2 ^ 44) ∨ (y ≤ x ∧ (y ≠ 0 → (x * y).log2 + k ≤ 90)))
theorem sc_law_measure : FnScope ["_law_a", "_law_b", "_law_k"] ["_law_a", "_law_b"] (defScope (top 65)) := ⟨rfl, rfl, rfl, by decide +kernel, rfl, by decide +kernel, by decide +kernel⟩
theorem ok_law_measure (T : Md K mg) (D : DefAt K mg "_law_measure" "_law_measure" (top 65) ["_law_a", "_law_b"])  : Ok P w K mg base 1 "_law_measure" ["_law_a", "_law_b"] (spD K R_law_measure) := by
  refine ok_pure D sc_law_measure (fun ds d h => by obtain ⟨a, b, rfl, _⟩ := h; rfl) fun f cdv A outer s H E hr => ?_
  refine ⟨_, (pss_cons (ps_set (i := 0) sc_law_measure.nd rfl (Or.inl rfl) (pe_callB call_abs (by rfl) T.abs (by decide +kernel) (pa_cons (pv 0) pa_nil)))
      (pss_cons (ps_set (i := 1) sc_law_measure.nd rfl (Or.inl rfl) (pe_callB call_abs (by rfl) T.abs (by decide +kernel) (pa_cons (pv 1) pa_nil)))
      (pss_cons (ps_for PassesOwn.never rfl (pi_range1 (by rfl) T.range (pa_cons pe_int pa_nil)) (pg_name (i := 2) sc_law_measure.nd rfl (Or.inl rfl)) (pss_cons (ps_if (pt_cmpR (op_eqDK (K := K) (by exact rfl) hr.units) (pv 1) pe_int (nomark _)) (pss_one (ps_ret (pv 0))) pss_nil)
      (pss_one (ps_par (i := 0) (j := 1) (by rfl) sc_law_measure.nd rfl rfl (by decide) rfl rfl (pa_cons (pv 1) (pa_cons (pe_op op_modN (pv 0) (pv 1)) pa_nil)) (by rfl)))))
      (pss_one (ps_ret (pv 0)))))), ?_⟩
  rintro _ _ ⟨a, b, rfl, h0, h1, rfl⟩
  show SD K none _ [.d (.int a), .d (.int b), .no] none _ _ _ _
  have ha : a.natAbs < 2 ^ 44 := h0
  have hb : b.natAbs < 2 ^ 44 := h1
  refine q_asg (by walk_at "ev") ?_
  refine q_asg (by walk_at "ev") ?_
  refine s_seq (M := fun e o => LmI a b 5000 e o) (s_forR (LmI a b) ((by walk_at "ea" : EvA K _ _ none [.int 5000]).toR ⟨5000, rfl, by decide, by decide, ⟨a.natAbs, b.natAbs, .no, rfl, rfl, rfl, .inl ⟨rfl, ha, hb⟩⟩, ?_, fun e o h => h⟩)) ?_
  · rintro i _ _ hi ⟨x, y, z, rfl, rfl, hg, hk⟩
    refine s_seq (M := fun e o => e = [.d (.int (x : Int)), .d (.int (y : Int)), .d (.int i)] ∧ o = none ∧ y ≠ 0) (s_if (b := decide ((y : Int) = 0)) (by walk_at "et") (fun hh => ?_) fun hh => ?_) ?_
    · have hz := of_decide_eq_true hh
      have hy : y = 0 := by omega
      subst hy
      refine s_ret (by walk_at "ev") ?_
      rw [Nat.gcd_zero_right] at hg
      congr 1
      omega
    · refine s_next ⟨rfl, rfl, fun z => ?_⟩
      subst z
      simp at hh
    rintro _ _ ⟨rfl, rfl, hy⟩
    have hy2 : (y : Int) ≠ 0 := by omega
    have hm : (x : Int).fmod y = ((x % y : Nat) : Int) := by
      rw [Int.fmod_eq_emod_of_nonneg _ (by omega)]
      rfl
    refine s_par (x := .int (y : Int)) (y := .int ((x % y : Nat) : Int)) (by rw [← hm]; walk_at "ea") ⟨y, x % y, _, rfl, rfl, ?_, ?_⟩
    · rw [Nat.gcd_comm, ← Nat.gcd_rec, Nat.gcd_comm]
      exact hg
    · have hr := Nat.mod_lt x (show 0 < y by omega)
      rcases hk with ⟨k0, k1, k2⟩ | ⟨k0, k1⟩
      · right
        refine ⟨by omega, fun hz => ?_⟩
        have := Mth.log_prod (a := y) (b := x % y) k2 (by omega)
        omega
      · right
        refine ⟨by omega, fun hz => ?_⟩
        have h3 : y + x % y ≤ x := by
          have e := Nat.div_add_mod x y
          have h4 : 1 ≤ x / y := (Nat.le_div_iff_mul_le (by omega)).mpr (by omega)
          have := Nat.mul_le_mul_left y h4
          omega
        have h5 := Mth.half_prod hr h3
        have h6 := Mth.log_half h5 (Nat.mul_ne_zero (by omega) hz)
        have h7 := k1 hy
        omega
  rintro _ _ ⟨x, y, z, rfl, rfl, hg, hk⟩
  refine s_ret (by walk_at "ev") ?_
  have hy : y = 0 := by
    rcases hk with ⟨k0, _⟩ | ⟨_, k1⟩
    · omega
    · rcases Nat.eq_zero_or_pos y with h | h
      · exact h
      · have := k1 (by omega)
        omega
  rw [hy, Nat.gcd_zero_right] at hg
  congr 1
  omega

local macro_rules | `(tactic| walk_at "call") => `(tactic| ((with_reducible apply i_law_measure); all_goals (walk_at "pre")))

end
end Kx

-- K14
set_option maxHeartbeats 2000000
namespace Kx
open PySem PySem.Spec PyProof.Rows L2
local macro_rules | `(tactic| walk_at "bd") => `(tactic| first | assumption | exact Bd.lit (by decide) | ((with_reducible apply Bd.mul) <;> walk_at "bd") | ((with_reducible apply Bd.add) <;> walk_at "bd") | ((with_reducible apply Bd.sub) <;> walk_at "bd") | ((with_reducible apply Bd.neg); walk_at "bd"))
local macro_rules | `(tactic| walk_at "mul") => `(tactic| first | assumption | exact mulok_l (Bd.mono (by walk_at "bd") (by omega)) | exact mulok_r (Bd.mono (by walk_at "bd") (by omega)) | ((with_reducible apply mulok); (focus walk_at "bd"); (focus walk_at "bd"); omega))
local macro_rules | `(tactic| walk_at "cond") => `(tactic| first | assumption | walk_at "mul" | exact cfd (by first | assumption | omega) (by walk_at "bd") (by omega) | omega | decide)
local macro_rules | `(tactic| walk_at "rv") => `(tactic| first | with_reducible exact rv_I0 | with_reducible exact rv_B0 | with_reducible exact rv_eqI | with_reducible exact rv_neI | with_reducible exact rv_eqF | with_reducible exact rv_neF | with_reducible exact rv_eqS | ((with_reducible apply rv_I); walk_at "cond") | ((with_reducible apply rv_ixT); exact rfl) | ((with_reducible apply rv_ixL); exact rfl) | with_reducible exact rv_isN | with_reducible exact rv_notN | exact rv_cat (Nat.le_of_ble_eq_true rfl))
local macro_rules | `(tactic| walk_at "ev") => `(tactic| first
  | ((with_reducible apply ev_var); exact rfl) | with_reducible exact ev_int | with_reducible exact ev_bl | with_reducible exact ev_str | with_reducible exact ev_non | exact ev_quad (by assumption)
  | ((with_reducible apply ev_op); (focus walk_at "ev"); (focus walk_at "ev"); (focus walk_at "rv"))
  | ((with_reducible apply ev_un); (focus walk_at "ev"); with_reducible exact ru_I)
  | ((with_reducible apply ev_tup); (focus walk_at "ea"); exact Nat.le_of_ble_eq_true rfl)
  | ((with_reducible apply ev_lst); (focus walk_at "ea"); exact Nat.le_of_ble_eq_true rfl)
  | ((with_reducible apply ev_call); (focus walk_at "ea"); (focus walk_at "call"))
  | ((with_reducible apply ev_cb); (focus walk_at "ea"); (focus walk_at "rc"))
  | ((with_reducible apply ev_andV); (focus walk_at "ev"); (intro hh_; (focus walk_at "ev")))
  | ((with_reducible apply ev_orV); (focus walk_at "ev"); (intro hh_; (focus walk_at "ev")))
  | ((with_reducible apply ev_chain); (focus walk_at "ev"); (focus walk_at "ev"); (focus walk_at "rv"); (intro hh_; (focus walk_at "ev")); (intro hh_; (focus walk_at "rv")))
  | ((with_reducible apply ev_notV); walk_at "ev")
  | ((with_reducible apply ev_cut2); walk_at "ev"))
local macro_rules | `(tactic| walk_at "ea") => `(tactic| first | with_reducible exact ea_nil | ((with_reducible apply ea_cons); (focus walk_at "ev"); (focus walk_at "ea")))
local macro_rules | `(tactic| walk_at "rc") => `(tactic| first | with_reducible exact rc_abs | with_reducible exact rc_intI | with_reducible exact rc_intB | with_reducible exact rc_lenL | with_reducible exact rc_tupOf | exact rc_isq (by assumption) (by assumption) | exact rc_isq (by omega) (by omega))
local macro_rules | `(tactic| walk_at "et") => `(tactic| first
  | ((with_reducible apply et_test); walk_at "ev")
  | ((with_reducible apply et_B); walk_at "ev")
  | ((with_reducible apply et_and); (focus walk_at "et"); (intro hh_; (focus walk_at "et")))
  | ((with_reducible apply et_or); (focus walk_at "et"); (intro hh_; (focus walk_at "et")))
  | ((with_reducible apply et_not); walk_at "et"))
local macro_rules | `(tactic| walk_at "tg") => `(tactic| first | with_reducible exact tg_name | ((with_reducible apply tg_tup); (focus walk_at "tgs"); exact rfl) | ((with_reducible apply tg_unl); (focus walk_at "tgs"); exact rfl))
local macro_rules | `(tactic| walk_at "tgs") => `(tactic| first | with_reducible exact tg_nil | ((with_reducible apply tg_cons); (focus walk_at "tg"); (focus walk_at "tgs")))
local macro_rules | `(tactic| walk_at "pre") => `(tactic| first | assumption | walk_at "bd" | exact Bd.mono (by walk_at "bd") (by omega) | omega | decide)

local macro_rules | `(tactic| walk_at "call") => `(tactic| ((with_reducible apply i_worth); all_goals (walk_at "pre")))

local macro_rules | `(tactic| walk_at "call") => `(tactic| ((with_reducible apply i_act); all_goals (walk_at "pre")))

local macro_rules | `(tactic| walk_at "call") => `(tactic| ((with_reducible apply i_discriminant); all_goals (walk_at "pre")))

local macro_rules | `(tactic| walk_at "call") => `(tactic| ((with_reducible apply i_scaled); all_goals (walk_at "pre")))

local macro_rules | `(tactic| walk_at "call") => `(tactic| ((with_reducible apply i_divided); all_goals (walk_at "pre")))

local macro_rules | `(tactic| walk_at "call") => `(tactic| ((with_reducible apply i_multiply); all_goals (walk_at "pre")))

local macro_rules | `(tactic| walk_at "call") => `(tactic| ((with_reducible apply i_determinant); all_goals (walk_at "pre")))

local macro_rules | `(tactic| walk_at "call") => `(tactic| ((with_reducible apply i_inverse); all_goals (walk_at "pre")))

local macro_rules | `(tactic| walk_at "call") => `(tactic| ((with_reducible apply i_floor_root); all_goals (walk_at "pre")))

local macro_rules | `(tactic| walk_at "call") => `(tactic| ((with_reducible apply i_is_square); all_goals (walk_at "pre")))

local macro_rules | `(tactic| walk_at "call") => `(tactic| ((with_reducible apply i_kind); all_goals (walk_at "pre")))

local macro_rules | `(tactic| walk_at "call") => `(tactic| ((with_reducible apply i_is_reduced_definite)))


local macro_rules | `(tactic| walk_at "call") => `(tactic| ((with_reducible apply i_measure); all_goals (walk_at "pre")))

local macro_rules | `(tactic| walk_at "call") => `(tactic| ((with_reducible apply i_content); all_goals (walk_at "pre")))

local macro_rules | `(tactic| walk_at "call") => `(tactic| ((with_reducible apply i_is_reduced_indefinite); all_goals (walk_at "pre")))

local macro_rules | `(tactic| walk_at "call") => `(tactic| ((with_reducible apply i_step_of); all_goals (walk_at "pre")))

local macro_rules | `(tactic| walk_at "call") => `(tactic| ((with_reducible apply i_law_root); all_goals (walk_at "pre")))

local macro_rules | `(tactic| walk_at "call") => `(tactic| ((with_reducible apply i_law_square); all_goals (walk_at "pre")))

local macro_rules | `(tactic| walk_at "call") => `(tactic| ((with_reducible apply i_law_kind); all_goals (walk_at "pre")))

local macro_rules | `(tactic| walk_at "call") => `(tactic| ((with_reducible apply i_law_is_reduced); all_goals (walk_at "pre")))

local macro_rules | `(tactic| walk_at "call") => `(tactic| ((with_reducible apply i_law_neighbour); all_goals (walk_at "pre")))

local macro_rules | `(tactic| walk_at "call") => `(tactic| ((with_reducible apply i_law_worth); all_goals (walk_at "pre")))

local macro_rules | `(tactic| walk_at "call") => `(tactic| ((with_reducible apply i_law_act); all_goals (walk_at "pre")))

local macro_rules | `(tactic| walk_at "call") => `(tactic| ((with_reducible apply i_law_mul); all_goals (walk_at "pre")))

local macro_rules | `(tactic| walk_at "call") => `(tactic| ((with_reducible apply i_law_measure); all_goals (walk_at "pre")))

local macro_rules | `(tactic| walk_at "call") => `(tactic| ((with_reducible apply i_discF); assumption))

section
variable {P : Program} {w : World} {K : Fg} {mg : Str → Option Value} {base : Heap}

def Pre_law_column (ds : List PyData) : Prop := ∃ (x : Int) (y : Int), ds = [.int x, .int y] ∧ Int.gcd x y = 1 ∧ Bd 43 x ∧ Bd 43 y
def Post_law_column (ds : List PyData) (d : PyData) : Prop := ∀ (x : Int) (y : Int), ds = [.int x, .int y] → ∃ q s : Int, d = mt x q y s ∧ x * s - y * q = 1 ∧ Bd 200 q ∧ Bd 200 s

def LcI (x y : Int) (k : Nat) (e : List Sl) (o : OS) : Prop := ∃ (low lu lv high hu hv : Int) (kk t : Sl), e = [.d (.int x), .d (.int y), .d (.tuple [.int low, .int lu, .int lv]), .d (.tuple [.int high, .int hu, .int hv]), kk, t] ∧ o = none ∧ low = lu * x + lv * y ∧ high = hu * x + hv * y ∧ Int.gcd low high = 1 ∧
  Bd 45 low ∧ Bd 44 high ∧ Mth.Bz low high lu hu y ∧ Bd 46 lu ∧ Bd 46 hu ∧ (y = 0 → high = 0 ∧ lv = 0) ∧ (k = 0 ∨ (high.natAbs ≤ low.natAbs ∧ 0 ≤ low * high ∧ (high ≠ 0 → (low.natAbs * high.natAbs).log2 + k ≤ 90)))
def LcE (x y : Int) (e : List Sl) (o : OS) : Prop := ∃ (low lu lv : Int) (h k t : Sl), e = [.d (.int x), .d (.int y), .d (.tuple [.int low, .int lu, .int lv]), h, k, t] ∧ o = none ∧ low = lu * x + lv * y ∧ low * low = 1 ∧ Bd 46 lu ∧ Bd 100 lv
theorem sc_law_column : FnScope ["_law_x", "_law_y", "_law_low", "_law_high", "_law_k", "_law_t"] ["_law_x", "_law_y"] (defScope (top 66)) := ⟨rfl, rfl, rfl, by decide +kernel, rfl, by decide +kernel, by decide +kernel⟩
theorem ok_law_column (T : Md K mg) (D : DefAt K mg "_law_column" "_law_column" (top 66) ["_law_x", "_law_y"])  : Ok P w K mg base 1 "_law_column" ["_law_x", "_law_y"] (spP K Pre_law_column Post_law_column) := by
  refine ok_rel D sc_law_column (fun ds h => by obtain ⟨x, y, rfl, _⟩ := h; rfl) fun f cdv A outer s H E hr => ?_
  refine ⟨_, (pss_cons (ps_set (i := 2) sc_law_column.nd rfl (Or.inl rfl) (pe_tup (pa_cons (pv 0) (pa_cons pe_int (pa_cons pe_int pa_nil)))))
      (pss_cons (ps_set (i := 3) sc_law_column.nd rfl (Or.inl rfl) (pe_tup (pa_cons (pv 1) (pa_cons pe_int (pa_cons pe_int pa_nil)))))
      (pss_cons (ps_for PassesOwn.never rfl (pi_range1 (by rfl) T.range (pa_cons pe_int pa_nil)) (pg_name (i := 4) sc_law_column.nd rfl (Or.inl rfl)) (pss_cons (ps_if (pt_cmpR (op_eqDK (K := K) (by exact rfl) hr.units) (pe_ix (ix_tupK (K := K) (by exact rfl)) (pv 3) pe_int (fun _ _ => rfl)) pe_int (nomark _)) (pss_one ps_break) pss_nil)
      (pss_cons (ps_set (i := 5) sc_law_column.nd rfl (Or.inl rfl) (pe_op op_fdX (pe_ix (ix_tupK (K := K) (by exact rfl)) (pv 2) pe_int (fun _ _ => rfl)) (pe_ix (ix_tupK (K := K) (by exact rfl)) (pv 3) pe_int (fun _ _ => rfl))))
      (pss_one (ps_par (i := 2) (j := 3) (by rfl) sc_law_column.nd rfl rfl (by decide) rfl rfl (pa_cons (pv 3) (pa_cons (pe_tup (pa_cons (pe_op op_sub (pe_ix (ix_tupK (K := K) (by exact rfl)) (pv 2) pe_int (fun _ _ => rfl)) (pe_op op_mulX (pv 5) (pe_ix (ix_tupK (K := K) (by exact rfl)) (pv 3) pe_int (fun _ _ => rfl)))) (pa_cons (pe_op op_sub (pe_ix (ix_tupK (K := K) (by exact rfl)) (pv 2) pe_int (fun _ _ => rfl)) (pe_op op_mulX (pv 5) (pe_ix (ix_tupK (K := K) (by exact rfl)) (pv 3) pe_int (fun _ _ => rfl)))) (pa_cons (pe_op op_sub (pe_ix (ix_tupK (K := K) (by exact rfl)) (pv 2) pe_int (fun _ _ => rfl)) (pe_op op_mulX (pv 5) (pe_ix (ix_tupK (K := K) (by exact rfl)) (pv 3) pe_int (fun _ _ => rfl)))) pa_nil)))) pa_nil)) (by rfl))))))
      (pss_one (ps_ret (pe_tup (pa_cons (pv 0) (pa_cons (pe_op op_mulX (pe_un un_neg (pe_ix (ix_tupK (K := K) (by exact rfl)) (pv 2) pe_int (fun _ _ => rfl))) (pe_ix (ix_tupK (K := K) (by exact rfl)) (pv 2) pe_int (fun _ _ => rfl))) (pa_cons (pv 1) (pa_cons (pe_op op_mulX (pe_ix (ix_tupK (K := K) (by exact rfl)) (pv 2) pe_int (fun _ _ => rfl)) (pe_ix (ix_tupK (K := K) (by exact rfl)) (pv 2) pe_int (fun _ _ => rfl))) pa_nil)))))))))), ?_⟩
  rintro _ ⟨x, y, rfl, h0, h1, h2⟩
  show SD K none _ [.d (.int x), .d (.int y), .no, .no, .no, .no] none _ _ _ _
  refine q_asg (by walk_at "ev") ?_
  refine q_asg (by walk_at "ev") ?_
  have bvb : ∀ {low lu lv : Int}, low = lu * x + lv * y → Bd 45 low → Bd 46 lu → (y = 0 → lv = 0) → Bd 100 lv := fun {low lu lv} e1 c0 c1 c3 => by
    by_cases hb : y = 0
    · rw [c3 hb]
      exact Bd.of (by decide)
    · have e5 : lv * y = low - lu * x := by omega
      have e6 : Bd 92 (low - lu * x) := (c0.sub (c1.mul h1)).mono (by decide)
      rw [← e5] at e6
      have e7 : (lv * y).natAbs < 2 ^ 92 := e6
      rw [Int.natAbs_mul] at e7
      have e8 : lv.natAbs * 1 ≤ lv.natAbs * y.natAbs := Nat.mul_le_mul_left _ (by omega)
      exact Bd.of (by omega)
  have ends : ∀ {low lu lv : Int} {h k t : Sl}, low = lu * x + lv * y → Int.gcd low 0 = 1 → Bd 45 low → Bd 46 lu → (y = 0 → lv = 0) → LcE x y [.d (.int x), .d (.int y), .d (.tuple [.int low, .int lu, .int lv]), h, k, t] none := fun {low lu lv h k t} e1 e2 c0 c1 c3 => by
    refine ⟨low, lu, lv, h, k, t, rfl, rfl, e1, ?_, c1, bvb e1 c0 c1 c3⟩
    have e3 : low.natAbs = 1 := by simpa using e2
    rcases Int.natAbs_eq low with q | q <;> rw [q, e3] <;> rfl
  refine s_seq (M := LcE x y) (s_forR (LcI x y) ((by walk_at "ea" : EvA K _ _ none [.int 400]).toR ⟨400, rfl, by decide, by decide, ⟨x, 1, 0, y, 0, 1, .no, .no, rfl, rfl, by omega, by omega, h0, h1.mono (by decide), h2.mono (by decide), ⟨by decide, .inr rfl, by omega⟩, Bd.of (by decide), Bd.of (by decide), fun z => ⟨z, rfl⟩, .inl rfl⟩, ?_, ?_⟩)) ?_
  · rintro i _ _ hi ⟨low, lu, lv, high, hu, hv, kk, t, rfl, rfl, e1, e2, e3, b1, b2, bz, c1, c2, c3, hk⟩
    refine s_seq (M := fun e o => e = [.d (.int x), .d (.int y), .d (.tuple [.int low, .int lu, .int lv]), .d (.tuple [.int high, .int hu, .int hv]), .d (.int i), t] ∧ o = none ∧ high ≠ 0) (s_if (b := decide (high = 0)) (by walk_at "et") (fun hh => ?_) fun hh => ?_) ?_
    · have hz := of_decide_eq_true hh
      subst hz
      exact s_brk (ends e1 e3 b1 c1 fun z => (c3 z).2)
    · exact s_next ⟨rfl, rfl, of_decide_eq_false hh⟩
    rintro _ _ ⟨rfl, rfl, hne⟩
    obtain ⟨f1, f2, f3⟩ := Mth.fdiv_spec low high hne
    obtain ⟨bz2, bz3⟩ := Mth.bz_step hne bz
    have b3 : Bd 45 (low.fdiv high) := Bd.of (Nat.lt_of_le_of_lt f3 b1)
    have b4 : Bd 44 (low.fmod high) := Bd.of (Nat.lt_trans f2 b2)
    refine q_asg (by walk_at "ev") ?_
    refine s_par (by walk_at "ea") ⟨high, hu, hv, low.fmod high, lu - low.fdiv high * hu, lv - low.fdiv high * hv, .d (.int i), .d (.int (low.fdiv high)), ?_, rfl, e2, ?_, ?_, b2.mono (by decide), b4, bz2, c2, Bd.of (Nat.lt_of_le_of_lt bz3 (Nat.lt_trans h2 (by decide))), fun z => absurd (c3 z).1 hne, .inr ⟨by omega, ?_, fun hz => ?_⟩⟩
    · rw [← f1]
      rfl
    · rw [← f1]
      grind
    · rw [← f1, Int.gcd_sub_mul_right_right, Int.gcd_comm]
      exact e3
    · exact Mth.fmod_sign low hne
    · rcases hk with k0 | ⟨k0, k1, k2⟩
      · have q1 : high.natAbs < 2 ^ 44 := b2
        have := Mth.log_prod (a := high.natAbs) (b := (low.fmod high).natAbs) q1 (by omega)
        omega
      · have h3 := Mth.rest_le hne k1 k0
        have h5 := Mth.half_prod f2 h3
        have h6 := Mth.log_half h5 (Nat.mul_ne_zero (by omega) (by omega))
        have h7 := k2 hne
        omega
  · rintro e o ⟨low, lu, lv, high, hu, hv, kk, t, rfl, rfl, e1, e2, e3, b1, b2, bz, c1, c2, c3, hk⟩
    have hz : high = 0 := by
      rcases hk with k0 | ⟨_, _, k2⟩
      · cases k0
      · by_cases q : high = 0
        · exact q
        · have := k2 q
          omega
    subst hz
    exact ends e1 e3 b1 c1 fun z => (c3 z).2
  rintro _ _ ⟨low, lu, lv, h, k, t, rfl, rfl, e1, e2, c1, c2⟩
  have b1 : Bd 45 low := by
    refine Bd.of ?_
    have : (low.natAbs : Int) * low.natAbs = low * low := Int.natAbs_mul_self
    rcases Nat.lt_or_ge low.natAbs 2 with q | q
    · omega
    · have := Nat.mul_le_mul q q
      have e3 : ((low.natAbs * low.natAbs : Nat) : Int) = (low.natAbs : Int) * low.natAbs := Int.natCast_mul _ _
      omega
  refine s_ret (by walk_at "ev") ?_
  intro a b hab
  cases hab
  refine ⟨-lv * low, lu * low, rfl, ?_, (c2.neg.mul b1).mono (by decide), (c1.mul b1).mono (by decide)⟩
  grind


def Pre_law_split_least (ds : List PyData) : Prop := ∃ (g : Mth.F3), ds = [dF g] ∧ Spl g ∧ BdF 40 g
def Post_law_split_least (ds : List PyData) (d : PyData) : Prop := ∀ (g : Mth.F3), ds = [dF g] → ∃ C, d = dF C ∧ Mth.CanS (sI g) g C

structure LsD (g : Mth.F3) (X Y e : Int) : Prop where
  bx : Bd 43 X
  bY : Bd 43 Y
  nz : ¬ (X = 0 ∧ Y = 0)
  dir : ∀ t x y, t ≠ 0 → X = t * x → Y = t * y → Int.gcd x y = 1 → Mth.Dir g x y e
theorem sc_law_split_least : FnScope ["_law_form_here", "_law_a", "_law_b", "_law_c", "_law_root_here", "_law_ends", "_law_x", "_law_y", "_law_g", "_law_other_here"] ["_law_form_here"] (defScope (top 67)) := ⟨rfl, rfl, rfl, by decide +kernel, rfl, by decide +kernel, by decide +kernel⟩
theorem ok_law_split_least (T : Md K mg) (D : DefAt K mg "_law_split_least" "_law_split_least" (top 67) ["_law_form_here"]) (G_law_act : Ok P w K mg base 2 "_law_act" ["_law_form_here", "_law_m"] (spD K R_law_act)) (G_law_column : Ok P w K mg base 1 "_law_column" ["_law_x", "_law_y"] (spP K Pre_law_column Post_law_column)) (G_law_measure : Ok P w K mg base 1 "_law_measure" ["_law_a", "_law_b"] (spD K R_law_measure)) (G_law_root : Ok P w K mg base 1 "_law_root" ["_law_n"] (spD K R_law_root)) : Ok P w K mg base 3 "_law_split_least" ["_law_form_here"] (spP K Pre_law_split_least Post_law_split_least) := by
  refine ok_rel D sc_law_split_least (fun ds h => by obtain ⟨g, rfl, _⟩ := h; rfl) fun f cdv A outer s H E hr => ?_
  refine ⟨_, (pss_cons (ps_asg (pv 0) (pg_tupK (K := K) 3 (by exact rfl) rfl (pgs_cons (pg_name (i := 1) sc_law_split_least.nd rfl (Or.inl rfl)) (pgs_cons (pg_name (i := 2) sc_law_split_least.nd rfl (Or.inl rfl)) (pgs_cons (pg_name (i := 3) sc_law_split_least.nd rfl (Or.inl rfl)) pgs_nil))) (by rfl) (by rfl)))
      (pss_cons (ps_set (i := 4) sc_law_split_least.nd rfl (Or.inl rfl) (pe_callO G_law_root (hr.mono (by decide)) (by rfl) (pa_cons (pe_op op_sub (pe_op op_mulX (pv 2) (pv 2)) (pe_op op_mulX (pe_op op_mulX pe_int (pv 1)) (pv 3))) pa_nil)))
      (pss_cons (ps_set (i := 5) sc_law_split_least.nd rfl (Or.inl rfl) (pe_lst (pa_cons (pe_tup (pa_cons pe_int (pa_cons pe_int pa_nil))) (pa_cons (pe_tup (pa_cons (pv 3) (pa_cons (pe_un un_neg (pv 2)) pa_nil))) pa_nil))))
      (pss_cons (ps_if (pt_cmpR (op_neDK (K := K) (by exact rfl) hr.units) (pv 1) pe_int (nomark _)) (pss_one (ps_set (i := 5) sc_law_split_least.nd rfl (Or.inl rfl) (pe_lst (pa_cons (pe_tup (pa_cons (pe_op op_sub (pv 4) (pv 2)) (pa_cons (pe_op op_mulX pe_int (pv 1)) pa_nil))) (pa_cons (pe_tup (pa_cons (pe_op op_sub (pe_un un_neg (pv 4)) (pv 2)) (pa_cons (pe_op op_mulX pe_int (pv 1)) pa_nil))) pa_nil))))) pss_nil)
      (pss_cons (ps_for PassesOwn.never rfl (pi_listK (K := K) (by exact rfl) (pv 5)) (pg_tupK (K := K) 2 (by exact rfl) rfl (pgs_cons (pg_name (i := 6) sc_law_split_least.nd rfl (Or.inl rfl)) (pgs_cons (pg_name (i := 7) sc_law_split_least.nd rfl (Or.inl rfl)) pgs_nil)) (by rfl) (by rfl)) (pss_cons (ps_set (i := 8) sc_law_split_least.nd rfl (Or.inl rfl) (pe_callO G_law_measure (hr.mono (by decide)) (by rfl) (pa_cons (pv 6) (pa_cons (pv 7) pa_nil))))
      (pss_cons (ps_set (i := 9) sc_law_split_least.nd rfl (Or.inl rfl) (pe_callO G_law_act (hr.mono (by decide)) (by rfl) (pa_cons (pv 0) (pa_cons (pe_callO G_law_column (hr.mono (by decide)) (by rfl) (pa_cons (pe_op op_fdX (pv 6) (pv 8)) (pa_cons (pe_op op_fdX (pv 7) (pv 8)) pa_nil))) pa_nil))))
      (pss_one (ps_if (pt_cmpR (op_eqDK (K := K) (by exact rfl) hr.units) (pe_ix (ix_tupK (K := K) (by exact rfl)) (pv 9) pe_int (fun _ _ => rfl)) (pv 4) (nomark _)) (pss_one (ps_ret (pe_tup (pa_cons pe_int (pa_cons (pv 4) (pa_cons (pe_op op_modN (pe_ix (ix_tupK (K := K) (by exact rfl)) (pv 9) pe_int (fun _ _ => rfl)) (pv 4)) pa_nil)))))) pss_nil)))))
      (pss_one (ps_ret pe_non))))))), ?_⟩
  rintro _ ⟨g, rfl, h0, h1⟩
  show SD K none _ [.d (dF g), .no, .no, .no, .no, .no, .no, .no, .no, .no] none _ _ _ _
  have hs := h0
  obtain ⟨s1, s2, s3, s4, s5⟩ := h0
  have b1 : Bd 40 g.a := h1.a
  have b2 : Bd 40 g.b := h1.b
  have b3 : Bd 40 g.c := h1.c
  have bk : Bd 40 (sI g) := Bd.of (by omega)
  have k0 : sI g ≠ 0 := by omega
  refine q_asgG (by walk_at "ev") (by walk_at "tg") ?_
  refine q_asg (d := .int (sI g)) (ev_call (ds := [.int (Mth.dscF g)]) (by unfold Mth.dscF; walk_at "ea") (i_law_root (by omega) (by omega))) ?_
  refine q_asg (by walk_at "ev") ?_
  -- the two ends, each with its direction
  refine s_seq (M := fun e o => ∃ X1 Y1 X2 Y2 e1 e2, e = [.d (dF g), .d (.int g.a), .d (.int g.b), .d (.int g.c), .d (.int (sI g)), .d (.list [pt X1 Y1, pt X2 Y2]), .no, .no, .no, .no] ∧ o = none ∧ LsD g X1 Y1 e1 ∧ LsD g X2 Y2 e2 ∧ (e1 = sI g ∨ e2 = sI g)) (s_if (b := !decide (g.a = 0)) (by walk_at "et") (fun hh => ?_) fun hh => ?_) ?_
  · have ha : g.a ≠ 0 := by simpa using hh
    obtain ⟨d1, d2⟩ := Mth.split_dir (g := g) s3
    have hA : g.a.natAbs < 2 ^ 40 := b1
    refine s_asg (by walk_at "ev") ⟨sI g - g.b, 2 * g.a, -sI g - g.b, 2 * g.a, -sI g, sI g, rfl, rfl, ?_, ?_, .inr rfl⟩
    · exact ⟨(bk.sub b2).mono (by decide), Bd.of (by omega), by omega, fun t x y h1 h2 h3 h4 => d1 x y t h4 h1 h2 h3⟩
    · exact ⟨(bk.neg.sub b2).mono (by decide), Bd.of (by omega), by omega, fun t x y h1 h2 h3 h4 => d2 x y t h4 h1 h2 h3⟩
  · have ha : g.a = 0 := by simpa using hh
    obtain ⟨d1, d2⟩ := Mth.split_dir0 ha
    have hb2 : g.b * g.b = sI g * sI g := by
      rw [s3]
      simp only [Mth.dscF]
      rw [ha]
      omega
    have hb3 : g.b = sI g ∨ g.b = -sI g := by
      have : (g.b - sI g) * (g.b + sI g) = 0 := by grind
      rcases Int.mul_eq_zero.mp this with h | h
      · left; omega
      · right; omega
    refine s_next ⟨1, 0, g.c, -g.b, g.b, -g.b, rfl, rfl, ?_, ?_, by omega⟩
    · refine ⟨Bd.of (by decide), Bd.of (by decide), by omega, fun t x y h1 h2 h3 h4 => ?_⟩
      -- 1 = t x, 0 = t y
      refine Mth.dir_of (k := 0) (X := 1) (Y := 0) h4 h1 h2 h3 ?_ fun q s => ?_
      · rw [ha]
        grind
      · rw [ha]
        grind
    · refine ⟨b3.mono (by decide), b2.neg.mono (by decide), by omega, fun t x y h1 h2 h3 h4 => d2 x y (-t) h4 (by omega) (by rw [h2]; grind) (by
        have : g.b = -(t * y) := by omega
        rw [this]
        grind)⟩
  rintro _ _ ⟨X1, Y1, X2, Y2, e1, e2, rfl, rfl, d1, d2, he⟩
  refine s_seq (M := fun _ _ => False) (s_forL (ds := [pt X1 Y1, pt X2 Y2]) (fun i e o => (∃ z6 z7 z8 z9, e = [.d (dF g), .d (.int g.a), .d (.int g.b), .d (.int g.c), .d (.int (sI g)), .d (.list [pt X1 Y1, pt X2 Y2]), z6, z7, z8, z9]) ∧ o = none ∧ (1 ≤ i → e1 ≠ sI g) ∧ (2 ≤ i → e2 ≠ sI g)) (by walk_at "ev") ⟨⟨_, _, _, _, rfl⟩, rfl, fun z => absurd z (by decide), fun z => absurd z (by decide)⟩ ?_ ?_) (fun _ _ z => z.elim)
  · rintro i d e o hi ⟨⟨z6, z7, z8, z9, rfl⟩, rfl, n1, n2⟩
    have pick : ∃ X Y ee, d = pt X Y ∧ LsD g X Y ee ∧ (ee ≠ sI g → (1 ≤ i + 1 → e1 ≠ sI g) ∧ (2 ≤ i + 1 → e2 ≠ sI g)) := by
      match i, hi with
      | 0, hi =>
        have := Option.some.inj hi
        exact ⟨X1, Y1, e1, this.symm, d1, fun q => ⟨fun _ => q, fun z => absurd z (by decide)⟩⟩
      | 1, hi =>
        have := Option.some.inj hi
        exact ⟨X2, Y2, e2, this.symm, d2, fun q => ⟨fun _ => n1 (by decide), fun _ => q⟩⟩
      | k + 2, hi => exact absurd hi (by simp)
    obtain ⟨X, Y, ee, rfl, dd, fin⟩ := pick
    refine ⟨_, tg_tup (tg_cons tg_name (tg_cons tg_name tg_nil)) rfl, ?_⟩
    have hg0 : ((Int.gcd X Y : Nat) : Int) ≠ 0 := by
      intro z
      have z2 : Int.gcd X Y = 0 := by omega
      exact dd.nz (Int.gcd_eq_zero_iff.mp z2)
    obtain ⟨g1, g2, g3⟩ := Mth.gcd_div (x := X) (y := Y) rfl hg0
    have bX := bd_fdiv hg0 dd.bx
    have bY := bd_fdiv hg0 dd.bY
    have bG : Bd 43 ((Int.gcd X Y : Nat) : Int) := gcd_bd dd.bx dd.bY
    have dir := dd.dir _ _ _ hg0 g1 g2 g3
    refine q_asg (ev_call (ds := [.int X, .int Y]) (by walk_at "ea") (i_law_measure (dd.bx.mono (by decide)) (dd.bY.mono (by decide)))) ?_
    generalize hGG : ((Int.gcd X Y : Nat) : Int) = G at *
    have hx2 : EvA K _ _ none [.int (X.fdiv G), .int (Y.fdiv G)] := ea_cons (ev_op (ev_var (env := [.d (dF g), .d (.int g.a), .d (.int g.b), .d (.int g.c), .d (.int (sI g)), .d (.list [pt X1 Y1, pt X2 Y2]), .d (.int X), .d (.int Y), .d (.int G), z9]) (i := 6) rfl) (ev_var (i := 8) rfl) (rv_I (C := CFd) (g := fun i j => i.fdiv j) (cfd hg0 bG (by decide)))) (ea_cons (ev_op (ev_var (i := 7) rfl) (ev_var (i := 8) rfl) (rv_I (C := CFd) (g := fun i j => i.fdiv j) (cfd hg0 bG (by decide)))) ea_nil)
    generalize X.fdiv G = x at *
    generalize Y.fdiv G = y at *
    refine q_asgR (er_call (ear_cons (EvD.toR (ev_var rfl) (ear_cons (er_callP' hx2 ⟨_, _, rfl, g3, bX, bY⟩ fun d hd => ear_nil ?_)))))
    obtain ⟨q, s, rfl, det, b5, b6⟩ := hd x y rfl
    obtain ⟨a1, a2⟩ := Mth.dir_act dir det
    have hm : Mth.detM ⟨x, q, y, s⟩ = 1 := by
      simp only [Mth.detM]
      grind
    have bm : BdM 200 ⟨x, q, y, s⟩ := ⟨bX.mono (by decide), b5, bY.mono (by decide), b6⟩
    refine ⟨dF (Mth.actF g ⟨x, q, y, s⟩), i_law_act h1 bm (by omega), _, tg_name, ?_⟩
    generalize hA : Mth.actF g ⟨x, q, y, s⟩ = A at *
    refine s_if (b := decide (A.b = sI g)) (et_test (ev_op (ev_op (ev_var rfl) ev_int (rv_ixT rfl)) (ev_var rfl) rv_eqI)) (fun hh => ?_) fun hh => ?_
    · have hb := of_decide_eq_true hh
      have sh := Mth.split_shift (g := g) (k := sI g) (m := ⟨x, q, y, s⟩) s4 (by rw [hA]; exact a1) (by rw [hA]; exact hb) hm
      rw [hA] at sh
      refine s_ret (d := fm 0 (sI g) (A.c.fmod (sI g))) (by walk_at "ev") ?_
      intro g' hg
      have e := dF1 hg
      subst e
      exact ⟨⟨0, sI g, A.c.fmod (sI g)⟩, rfl, sh.2.2⟩
    · have hb := of_decide_eq_false hh
      rw [a2] at hb
      exact s_next ⟨⟨_, _, _, _, rfl⟩, rfl, fin hb⟩
  · rintro e o ⟨_, _, n1, n2⟩
    rcases he with h | h
    · exact absurd h (n1 (Nat.le_of_ble_eq_true rfl))
    · exact absurd h (n2 (Nat.le_of_ble_eq_true rfl))


end
end Kx

-- Klc
set_option maxHeartbeats 2000000
/-! Lists built by a block of their own; a new list that is given out and becomes the caller's own. -/
namespace Kx
open PySem PySem.Spec PyProof.Rows L2
section
variable {K : Fg} {F0 B : Hp} {l0 : Option Addr} {env : List Sl} {te : TE} {o : OS}
/-- between two turns: D holds acc -/
structure LcS (K : Fg) (F0 B : Hp) (l0 : Option Addr) (F H : Hp) (l : Addr) (o : OS) (σ : L2.St) (env : List Sl) (D : Addr) (ds : List PyData) : Prop where
  c : Cf K F0 B l0 F H l o σ env
  fD : F D = none
  bD : B D = none
  lD : ∀ cs, o = some cs → l ≠ D
  acc : ∃ xs, H D = some (.lst xs) ∧ DpAll K F xs ds
theorem LcS.start {F H : Hp} {l : Addr} {σ : L2.St} {D : Addr} (c : Cf K F0 B l0 F H l o σ env) (hD : H D = none) : LcS K F0 B l0 F (upd H D (.lst [])) l o σ env D [] := by
  have fD := same_none c.fh hD
  have bD := same_none c.bh hD
  have lD : ∀ cs, o = some cs → l ≠ D := fun cs e z => by
    obtain ⟨_, _, xs, h3, _⟩ := c.own cs e
    rw [z, hD] at h3
    cases h3
  refine ⟨⟨c.ff, c.bh.trans (same_new hD), c.fh.trans (same_new hD), c.nw, c.sat, fun cs e => ?_, c.fx⟩, fD, bD, lD, [], upd_same, .nil⟩
  obtain ⟨h1, h2, xs, h3, h4⟩ := c.own cs e
  exact ⟨h1, h2, xs, by rw [upd_ne (lD cs e)]; exact h3, h4⟩
theorem LcS.fin {F H : Hp} {l : Addr} {σ : L2.St} {D : Addr} {ds : List PyData} (s : LcS K F0 B l0 F H l o σ env D ds) : ∃ F2, Cf K F0 B l0 F2 H l o σ env ∧ Same F F2 ∧ Dp K F2 (.ref D) (.list ds) := by
  obtain ⟨xs, h1, h2⟩ := s.acc
  have sn : Same F (upd F D (.lst xs)) := same_new s.fD
  refine ⟨upd F D (.lst xs), ⟨s.c.ff.trans sn, s.c.bh, fun a u e => ?_, fun a u e => ?_, sat_up sn s.c.sat, fun cs e => ?_, s.c.fx⟩, sn, .lst (SqL.of upd_same) (dpa_up sn h2)⟩
  · by_cases q : a = D
    · subst q
      rw [upd_same] at e
      rw [h1]
      exact e
    · rw [upd_ne q] at e
      exact s.c.fh a u e
  · by_cases q : a = D
    · subst q
      exact .inr s.bD
    · rw [upd_ne q] at e
      exact s.c.nw a u e
  · obtain ⟨k1, k2, ys, k3, k4⟩ := s.c.own cs e
    exact ⟨by rw [upd_ne (s.lD cs e)]; exact k1, k2, ys, k3, dpa_up sn k4⟩
theorem LcS.turn {F H : Hp} {l : Addr} {σ : L2.St} {D : Addr} {ds : List PyData} {j : Nat} {x : V} {d : PyData} {R : PyData → OS → Prop} (s : LcS K F0 B l0 F H l o σ env D ds) (hl : ds.length < 100000) (hx : Dp K F x d) (h : EvR K te (env.set j (.d d)) o R)
    {Nx : Hp → Prop} (hn : ∀ F2 H2 d2 o2, R d2 o2 → Same F F2 → LcS K F0 B l0 F2 H2 l o2 σ env D (ds ++ [d2]) → Nx H2) :
    te ((wipe σ [j]).set j (some x)) H fun y H4 => ∃ acc, H4 D = some (.lst acc) ∧ acc.length < sizeLine ∧ Nx (upd H4 D (.lst (acc ++ [y]))) := by
  have e1 : (wipe σ [j]).set j (some x) = σ.set j (some x) := by
    show (σ.set j none).set j (some x) = _
    rw [List.set_set]
  rw [e1]
  obtain ⟨xs, h1, h2⟩ := s.acc
  have c := s.c
  refine h F (upd B D (.lst xs)) l0 F H l _ ⟨Same.refl _, fun a u e => ?_, c.fh, fun a u e => .inl e, sat_set (s := .d d) (o := some x) c.sat ⟨x, rfl, hx⟩ j, fun cs e => ?_, c.fx⟩ _ fun y F2 H4 d2 o2 hR c2 e2 dy => ?_
  · by_cases q : a = D
    · subst q
      rw [upd_same] at e
      rw [h1]
      exact e
    · rw [upd_ne q] at e
      exact c.bh a u e
  · obtain ⟨k1, k2, ys, k3, k4⟩ := c.own cs e
    exact ⟨k1, by rw [upd_ne (s.lD cs e)]; exact k2, ys, k3, k4⟩
  have hD : H4 D = some (.lst xs) := c2.bh D _ upd_same
  have fD : F2 D = none := by
    cases q : F2 D with
    | none => rfl
    | some u =>
      rcases c2.nw D u q with z | z
      · rw [s.fD] at z
        cases z
      · rw [upd_same] at z
        cases z
  refine ⟨xs, hD, sz_lt (by rw [dpa_len h2]; exact hl), ?_⟩
  have lD : ∀ cs, o2 = some cs → l ≠ D ∧ B l = none := fun cs e => by
    obtain ⟨_, k2, _⟩ := c2.own cs e
    have q : l ≠ D := fun z => by
      rw [z, upd_same] at k2
      cases k2
    rw [upd_ne q] at k2
    exact ⟨q, k2⟩
  refine hn F2 _ d2 o2 hR e2 ⟨⟨c.ff.trans e2, fun a u e => ?_, fun a u e => ?_, fun a u e => ?_, sat_up e2 c.sat, fun cs e => ?_, c.fx⟩, fD, s.bD, fun cs e => (lD cs e).1, _, upd_same, dpa_app (dpa_up e2 h2) (.cons dy .nil)⟩
  · have q : a ≠ D := fun z => by
      rw [z, s.bD] at e
      cases e
    rw [upd_ne q]
    exact c2.bh a u (by rw [upd_ne q]; exact e)
  · have q : a ≠ D := fun z => by
      rw [z, fD] at e
      cases e
    rw [upd_ne q]
    exact c2.fh a u e
  · rcases c2.nw a u e with z | z
    · exact c.nw a u z
    · have q : a ≠ D := fun y => by
        rw [y, upd_same] at z
        cases z
      rw [upd_ne q] at z
      exact .inr z
  · obtain ⟨k1, k2, ys, k3, k4⟩ := c2.own cs e
    obtain ⟨q1, q2⟩ := lD cs e
    exact ⟨k1, q2, ys, by rw [upd_ne q1]; exact k3, k4⟩
theorem wipe_one (σ : L2.St) (j : Nat) (x : Option V) : wipe ((wipe σ [j]).set j x) [j] = wipe σ [j] := by
  show ((σ.set j none).set j x).set j none = σ.set j none
  rw [List.set_set, List.set_set]
variable {R : PyData → OS → Prop}
/-- a list over a range, whose turns may change our own list -/
theorem er_lcR {ta : TA} {j : Nat} {n : Int} (I : Nat → List PyData → OS → Prop) (h : EvA K ta env o [.int n]) (g0 : 0 ≤ n) (g1 : n ≤ 1000) (h0 : I 0 [] o)
    (hs : ∀ (i : Nat) ds o, (i : Int) < n → I i ds o → EvR K te (env.set j (.d (.int (i : Int)))) o fun d o2 => I (i + 1) (ds ++ [d]) o2) (hd : ∀ ds o, I n.toNat ds o → R (.list ds) o) :
    EvR K (tLc (iRng1 ta) (gName j) tYes te [j]) env o R := fun F0 B l0 F H l σ c Q q => h F0 B l0 F H l σ c _ fun vs F1 H1 c1 e1 d1 => by
  cases d1 with
  | cons a t2 =>
    cases t2
    have e := dp_int a
    subst e
    refine ⟨n, rfl, by omega, by omega, fun D hD => lc_range (lo := 0) (n := n.toNat) (fun i H => ∃ F ds o, Same F1 F ∧ ds.length = i ∧ I i ds o ∧ LcS K F0 B l0 F H l o σ env D ds) ⟨F1, [], o, Same.refl _, rfl, h0, LcS.start c1 hD⟩ (fun i H hi ⟨F, ds, o, s1, hl, hI, s⟩ => ⟨wipe_one _ _ _, ?_⟩) fun H ⟨F, ds, o, s1, hl, hI, s⟩ => ?_⟩
    · rw [Int.zero_add]
      exact s.turn (Nx := fun H => ∃ F ds o, Same F1 F ∧ ds.length = i + 1 ∧ I (i + 1) ds o ∧ LcS K F0 B l0 F H l o σ env D ds) (by omega) (.int _) (hs i ds o (by omega) hI) fun F2 H2 d2 o2 hR e2 s2 => ⟨F2, ds ++ [d2], o2, s1.trans e2, by simp [hl], hR, s2⟩
    · obtain ⟨F2, c2, e2, d2⟩ := s.fin
      exact q _ F2 H _ o (hd ds o hI) c2 ((e1.trans s1).trans e2) d2
/-- a list over a tuple -/
theorem er_lcT {tl : TE} {j : Nat} (h : EvR K tl env o fun d o2 => ∃ ds es : List PyData, d = .tuple ds ∧ ds.length ≤ 1000 ∧ es.length = ds.length ∧ (∀ (i : Nat) d e, ds[i]? = some d → es[i]? = some e → EvD K te (env.set j (.d d)) o2 e) ∧ R (.list es) o2) :
    EvR K (tLc (iTup K tl) (gName j) tYes te [j]) env o R := fun F0 B l0 F H l σ c Q q => h F0 B l0 F H l σ c _ fun v F1 H1 dd o2 ⟨ds, es, ed, hn, hlen, hs, hR⟩ c1 e1 d1 => by
  subst ed
  obtain ⟨a, xs, rfl, hq, ha⟩ := dp_tup d1
  have hxl := dpa_len ha
  refine ⟨a, rfl, ⟨xs, same_tup c1.fh hq⟩, fun D hD => lc_tup (xs := xs) (fun i H => ∃ F, Same F1 F ∧ i ≤ xs.length ∧ LcS K F0 B l0 F H l o2 σ env D (es.take i)) ⟨F1, Same.refl _, Nat.zero_le _, LcS.start c1 hD⟩ (fun i H hi ⟨F, s1, hle, s⟩ => same_tup s.c.fh (same_tup s1 hq)) (fun i x H hi ⟨F, s1, hle, s⟩ => ⟨wipe_one _ _ _, ?_⟩) fun H ⟨F, s1, hle, s⟩ => ?_⟩
  · obtain ⟨d, k1, k2⟩ := dpa_of ha hi
    have hi2 : i < xs.length := (List.getElem?_eq_some_iff.mp hi).1
    have hi3 : i < es.length := by omega
    exact s.turn (Nx := fun H => ∃ F, Same F1 F ∧ i + 1 ≤ xs.length ∧ LcS K F0 B l0 F H l o2 σ env D (es.take (i + 1))) (by rw [List.length_take]; omega) (dp_up s1 k2) ((hs i d es[i] k1 (List.getElem?_eq_getElem hi3)).toR (R := fun d' o' => d' = es[i] ∧ o' = o2) ⟨rfl, rfl⟩) fun F2 H2 d2 o3 hdo e2 s2 => by
      rw [hdo.1, hdo.2] at s2
      exact ⟨F2, s1.trans e2, hi2, by rw [List.take_add_one, List.getElem?_eq_getElem hi3]; exact s2⟩
  · have e : es.take xs.length = es := by rw [hxl, ← hlen, List.take_length]
    rw [e] at s
    obtain ⟨F2, c2, e2, d2⟩ := s.fin
    exact q _ F2 H _ o2 hR c2 ((e1.trans s1).trans e2) d2
/-- a form's or a tuple's three numbers, each with its sign turned -/
theorem er_neg3 {tl : TE} {j : Nat} (hj : j < env.length) (h : EvR K tl env o fun d o2 => ∃ a b c : Int, d = fm a b c ∧ R (.list [.int (-a), .int (-b), .int (-c)]) o2) :
    EvR K (tLc (iTup K tl) (gName j) tYes (tUn (rU fun i => .int (-i)) (tVar j)) [j]) env o R := er_lcT (h.imp fun d o2 ⟨a, b, c, e, hR⟩ => ⟨[.int a, .int b, .int c], [.int (-a), .int (-b), .int (-c)], e, (Nat.le_of_ble_eq_true rfl), rfl, fun i d e h1 h2 => by
    have one : ∀ z : Int, EvD K (tUn (rU fun i => .int (-i)) (tVar j)) (env.set j (.d (.int z))) o2 (.int (-z)) := fun z => ev_un (ev_var (List.getElem?_set_self hj)) ru_I
    match i, h1, h2 with
    | 0, h1, h2 =>
      cases Option.some.inj h1
      cases Option.some.inj h2
      exact one a
    | 1, h1, h2 =>
      cases Option.some.inj h1
      cases Option.some.inj h2
      exact one b
    | 2, h1, h2 =>
      cases Option.some.inj h1
      cases Option.some.inj h2
      exact one c
    | k + 3, h1, h2 => exact absurd h1 (by simp), hR⟩)
end
/-! ### a def that gives out a new list, which becomes the caller's own -/
def spO (K : Fg) (Pre : List PyData → Prop) (Post : List PyData → List PyData → Prop) : Sp := fun vs H Q _ => ∃ (F : Hp) (ds : List PyData), Same F H ∧ DpAll K F vs ds ∧ Pre ds ∧
  ∀ (p : Addr) (F2 H2 : Hp) (cs : List PyData), Post ds cs → Same H H2 → Same F F2 → Same F2 H2 → (∀ a u, F2 a = some u → F a = some u ∨ H a = none) → F2 p = none → H p = none → (∃ ys, H2 p = some (.lst ys) ∧ DpAll K F2 ys cs) → Q (.ref p) H2
section
variable {K : Fg} {env : List Sl} {o : OS} {N : PN} {R : PR} {Bk Ct : PN} {t u : TS} {l0 : Option Addr} {tt : TT} {ti te : TS}
theorem q_skip (h : EvT K tt env o false) (k : SD K l0 u env o N R Bk Ct) : SD K l0 (tSeq (tIfS tt ti tNext) u) env o N R Bk Ct := s_seq1 (s_if h (fun z => nomatch z) fun _ => s_next ⟨rfl, rfl⟩) k
theorem q_take (h : EvT K tt env o true) (k : SD K l0 ti env o (fun _ _ => False) R Bk Ct) : SD K l0 (tSeq (tIfS tt ti te) u) env o N R Bk Ct := s_seq (M := fun _ _ => False) (s_if h (fun _ => k) fun z => nomatch z) (fun _ _ z => z.elim)
theorem s_setO {Pre : List PyData → Prop} {Post : List PyData → List PyData → Prop} {E : XK} {ta : TA} {ds : List PyData} {i : Nat} (hn : noOwn env = true) (h : EvA K ta env none ds) (hp : Pre ds) (k : ∀ cs, Post ds cs → N (env.set i .own) (some cs)) :
    SD K none (tAsg (tCall (spO K Pre Post) [] E ta) (gName i)) env none N R Bk Ct := fun F0 B F H l σ c D q =>
  h F0 B none F H l σ c _ fun vs F2 H2 c2 _ d2 => ⟨F2, ds, c2.fh, by rw [List.append_nil]; exact d2, hp, fun p F3 H3 cs hq h1 h2 h3 h4 h5 h6 h7 => by
    have c3 := c2.grow h1 h2 h3 h4
    have s4 := sat_l (l' := p) hn c3.sat
    exact q.nx F3 H3 p _ _ (some cs) (k cs hq) ⟨c3.ff, c3.bh, c3.fh, c3.nw, sat_set (s := .own) (o := some (.ref p)) s4 rfl i, fun es e => by
      cases e
      exact ⟨h5, same_none c2.bh h6, h7⟩, fun _ e => nomatch e⟩⟩
def SDo (K : Fg) (t : TS) (env : List Sl) (Post : List PyData → Prop) : Prop := ∀ (F0 B F H : Hp) (l : Addr) (σ : L2.St), Cf K F0 B none F H l none σ env → ∀ D : Ends,
  (∀ (p : Addr) (F2 H2 : Hp) (cs : List PyData), Post cs → Same F0 F2 → Same B H2 → Same F2 H2 → (∀ a u, F2 a = some u → F0 a = some u ∨ B a = none) → F2 p = none → B p = none → (∃ ys, H2 p = some (.lst ys) ∧ DpAll K F2 ys cs) → D.rt (.ref p) H2) → t D σ H
theorem so_seq {Post : List PyData → Prop} {M : PN} (h1 : SD K none t env none M (fun _ _ => False) (fun _ _ => False) (fun _ _ => False)) (h2 : ∀ e o, M e o → o = none ∧ SDo K u e Post) : SDo K (tSeq t u) env Post := fun F0 B F H l σ c D q =>
  h1 F0 B F H l σ c { D with nx := u D } ⟨fun F H l σ e o n c2 => by
    obtain ⟨e1, e2⟩ := h2 e o n
    subst e1
    exact e2 F0 B F H l σ c2 D q, fun _ _ _ _ _ _ _ _ z => z.elim, fun _ _ _ _ _ _ z => z.elim, fun _ _ _ _ _ _ z => z.elim⟩
theorem so_ret {Post : List PyData → Prop} {ta : TA} {ds : List PyData} (h : EvA K ta env none ds) (hl : ds.length ≤ 100000) (hp : Post ds) : SDo K (tRet (tLst ta)) env Post := fun F0 B F H l σ c D q =>
  h F0 B none F H l σ c _ fun vs F2 H2 c2 _ d2 => ⟨sz_of (by rw [dpa_len d2]; exact hl), fun p hpn => q p F2 _ ds hp c2.ff (c2.bh.trans (same_new hpn)) (c2.fh.trans (same_new hpn)) c2.nw (same_none c2.fh hpn) (same_none c2.bh hpn) ⟨vs, upd_same, d2⟩⟩
variable {P : Program} {w : World} {mg : Str → Option Value} {base : Heap}
theorem ok_out {x n : Str} {st : Stmt} {N ps : List Str} {k : Nat} {Pre : List PyData → Prop} {Post : List PyData → List PyData → Prop} (D : DefAt K mg x n st ps) (sc : FnScope N ps (defScope st)) (len : ∀ ds, Pre ds → ds.length = ps.length)
    (body : ∀ (f : Addr) (cdv : Value) (A : Around) (outer : List Env) (s : Shared) (H : Hp) (E : XK), Room k (CxD P w K mg base N n st f cdv A outer s H E).A →
      ∃ t, PSs (CxD P w K mg base N n st f cdv A outer s H E) (defBody st) t ∧ ∀ ds, Pre ds → SDo K t (envOf N ds) (Post ds)) : Ok P w K mg base (k + 1) x ps (spO K Pre Post) := by
  obtain ⟨f, fd, hm, F, hb⟩ := D.ex
  refine ⟨f, fd, hm, F.kp, hb, F.ok sc (fun vs H Q E ⟨G, ds, _, h1, h2, _⟩ => by rw [dpa_len h1]; exact len ds h2) fun cdv A outer s H vs Q E hr ⟨G, ds, hs, hd, hR, hq⟩ => ?_⟩
  obtain ⟨t, ht, h⟩ := body f cdv A outer s H E hr
  exact ⟨t, ht.nox, h ds hR G H G H 0 _ ⟨Same.refl _, Same.refl _, hs, fun a u e => .inl e, sat_start hd, fun _ e => (nomatch e), fun _ e => (nomatch e)⟩ _ fun p F2 H2 cs hp h1 h2 h3 h4 h5 h6 h7 => hq p F2 H2 cs hp h2 h1 h3 h4 h5 h6 h7⟩
end
end Kx

-- K15
set_option maxHeartbeats 2000000
namespace Kx
open PySem PySem.Spec PyProof.Rows L2
local macro_rules | `(tactic| walk_at "bd") => `(tactic| first | assumption | exact Bd.lit (by decide) | ((with_reducible apply Bd.mul) <;> walk_at "bd") | ((with_reducible apply Bd.add) <;> walk_at "bd") | ((with_reducible apply Bd.sub) <;> walk_at "bd") | ((with_reducible apply Bd.neg); walk_at "bd"))
local macro_rules | `(tactic| walk_at "mul") => `(tactic| first | assumption | exact mulok_l (Bd.mono (by walk_at "bd") (by omega)) | exact mulok_r (Bd.mono (by walk_at "bd") (by omega)) | ((with_reducible apply mulok); (focus walk_at "bd"); (focus walk_at "bd"); omega))
local macro_rules | `(tactic| walk_at "cond") => `(tactic| first | assumption | walk_at "mul" | exact cfd (by first | assumption | omega) (by walk_at "bd") (by omega) | omega | decide)
local macro_rules | `(tactic| walk_at "rv") => `(tactic| first | with_reducible exact rv_I0 | with_reducible exact rv_B0 | with_reducible exact rv_eqI | with_reducible exact rv_neI | with_reducible exact rv_eqF | with_reducible exact rv_neF | with_reducible exact rv_eqS | ((with_reducible apply rv_I); walk_at "cond") | ((with_reducible apply rv_ixT); exact rfl) | ((with_reducible apply rv_ixL); exact rfl) | with_reducible exact rv_isN | with_reducible exact rv_notN | exact rv_cat (Nat.le_of_ble_eq_true rfl))
local macro_rules | `(tactic| walk_at "ev") => `(tactic| first
  | ((with_reducible apply ev_var); exact rfl) | with_reducible exact ev_int | with_reducible exact ev_bl | with_reducible exact ev_str | with_reducible exact ev_non | exact ev_quad (by assumption)
  | ((with_reducible apply ev_op); (focus walk_at "ev"); (focus walk_at "ev"); (focus walk_at "rv"))
  | ((with_reducible apply ev_un); (focus walk_at "ev"); with_reducible exact ru_I)
  | ((with_reducible apply ev_tup); (focus walk_at "ea"); exact Nat.le_of_ble_eq_true rfl)
  | ((with_reducible apply ev_lst); (focus walk_at "ea"); exact Nat.le_of_ble_eq_true rfl)
  | ((with_reducible apply ev_call); (focus walk_at "ea"); (focus walk_at "call"))
  | ((with_reducible apply ev_cb); (focus walk_at "ea"); (focus walk_at "rc"))
  | ((with_reducible apply ev_andV); (focus walk_at "ev"); (intro hh_; (focus walk_at "ev")))
  | ((with_reducible apply ev_orV); (focus walk_at "ev"); (intro hh_; (focus walk_at "ev")))
  | ((with_reducible apply ev_chain); (focus walk_at "ev"); (focus walk_at "ev"); (focus walk_at "rv"); (intro hh_; (focus walk_at "ev")); (intro hh_; (focus walk_at "rv")))
  | ((with_reducible apply ev_notV); walk_at "ev")
  | ((with_reducible apply ev_cut2); walk_at "ev"))
local macro_rules | `(tactic| walk_at "ea") => `(tactic| first | with_reducible exact ea_nil | ((with_reducible apply ea_cons); (focus walk_at "ev"); (focus walk_at "ea")))
local macro_rules | `(tactic| walk_at "rc") => `(tactic| first | with_reducible exact rc_abs | with_reducible exact rc_intI | with_reducible exact rc_intB | with_reducible exact rc_lenL | with_reducible exact rc_tupOf | exact rc_isq (by assumption) (by assumption) | exact rc_isq (by omega) (by omega))
local macro_rules | `(tactic| walk_at "et") => `(tactic| first
  | ((with_reducible apply et_test); walk_at "ev")
  | ((with_reducible apply et_B); walk_at "ev")
  | ((with_reducible apply et_and); (focus walk_at "et"); (intro hh_; (focus walk_at "et")))
  | ((with_reducible apply et_or); (focus walk_at "et"); (intro hh_; (focus walk_at "et")))
  | ((with_reducible apply et_not); walk_at "et"))
local macro_rules | `(tactic| walk_at "tg") => `(tactic| first | with_reducible exact tg_name | ((with_reducible apply tg_tup); (focus walk_at "tgs"); exact rfl) | ((with_reducible apply tg_unl); (focus walk_at "tgs"); exact rfl))
local macro_rules | `(tactic| walk_at "tgs") => `(tactic| first | with_reducible exact tg_nil | ((with_reducible apply tg_cons); (focus walk_at "tg"); (focus walk_at "tgs")))
local macro_rules | `(tactic| walk_at "pre") => `(tactic| first | assumption | walk_at "bd" | exact Bd.mono (by walk_at "bd") (by omega) | omega | decide)

local macro_rules | `(tactic| walk_at "call") => `(tactic| ((with_reducible apply i_worth); all_goals (walk_at "pre")))

local macro_rules | `(tactic| walk_at "call") => `(tactic| ((with_reducible apply i_act); all_goals (walk_at "pre")))

local macro_rules | `(tactic| walk_at "call") => `(tactic| ((with_reducible apply i_discriminant); all_goals (walk_at "pre")))

local macro_rules | `(tactic| walk_at "call") => `(tactic| ((with_reducible apply i_scaled); all_goals (walk_at "pre")))

local macro_rules | `(tactic| walk_at "call") => `(tactic| ((with_reducible apply i_divided); all_goals (walk_at "pre")))

local macro_rules | `(tactic| walk_at "call") => `(tactic| ((with_reducible apply i_multiply); all_goals (walk_at "pre")))

local macro_rules | `(tactic| walk_at "call") => `(tactic| ((with_reducible apply i_determinant); all_goals (walk_at "pre")))

local macro_rules | `(tactic| walk_at "call") => `(tactic| ((with_reducible apply i_inverse); all_goals (walk_at "pre")))

local macro_rules | `(tactic| walk_at "call") => `(tactic| ((with_reducible apply i_floor_root); all_goals (walk_at "pre")))

local macro_rules | `(tactic| walk_at "call") => `(tactic| ((with_reducible apply i_is_square); all_goals (walk_at "pre")))

local macro_rules | `(tactic| walk_at "call") => `(tactic| ((with_reducible apply i_kind); all_goals (walk_at "pre")))

local macro_rules | `(tactic| walk_at "call") => `(tactic| ((with_reducible apply i_is_reduced_definite)))


local macro_rules | `(tactic| walk_at "call") => `(tactic| ((with_reducible apply i_measure); all_goals (walk_at "pre")))

local macro_rules | `(tactic| walk_at "call") => `(tactic| ((with_reducible apply i_content); all_goals (walk_at "pre")))

local macro_rules | `(tactic| walk_at "call") => `(tactic| ((with_reducible apply i_is_reduced_indefinite); all_goals (walk_at "pre")))

local macro_rules | `(tactic| walk_at "call") => `(tactic| ((with_reducible apply i_step_of); all_goals (walk_at "pre")))

local macro_rules | `(tactic| walk_at "call") => `(tactic| ((with_reducible apply i_law_root); all_goals (walk_at "pre")))

local macro_rules | `(tactic| walk_at "call") => `(tactic| ((with_reducible apply i_law_square); all_goals (walk_at "pre")))

local macro_rules | `(tactic| walk_at "call") => `(tactic| ((with_reducible apply i_law_kind); all_goals (walk_at "pre")))

local macro_rules | `(tactic| walk_at "call") => `(tactic| ((with_reducible apply i_law_is_reduced); all_goals (walk_at "pre")))

local macro_rules | `(tactic| walk_at "call") => `(tactic| ((with_reducible apply i_law_neighbour); all_goals (walk_at "pre")))

local macro_rules | `(tactic| walk_at "call") => `(tactic| ((with_reducible apply i_law_worth); all_goals (walk_at "pre")))

local macro_rules | `(tactic| walk_at "call") => `(tactic| ((with_reducible apply i_law_act); all_goals (walk_at "pre")))

local macro_rules | `(tactic| walk_at "call") => `(tactic| ((with_reducible apply i_law_mul); all_goals (walk_at "pre")))

local macro_rules | `(tactic| walk_at "call") => `(tactic| ((with_reducible apply i_law_measure); all_goals (walk_at "pre")))

local macro_rules | `(tactic| walk_at "call") => `(tactic| ((with_reducible apply i_discF); assumption))

section
variable {P : Program} {w : World} {K : Fg} {mg : Str → Option Value} {base : Heap}

def Pre_law_canonical (ds : List PyData) : Prop := ∃ (g : Mth.F3), ds = [dF g] ∧ Sm g
def Post_law_canonical (ds : List PyData) (d : PyData) : Prop := ∀ (g : Mth.F3), ds = [dF g] → ∃ C, d = dF C ∧ IsCan g C

theorem sc_law_canonical : FnScope ["_law_form_here", "_law_sort", "_law_part", "_law_g"] ["_law_form_here"] (defScope (top 68)) := ⟨rfl, rfl, rfl, by decide +kernel, rfl, by decide +kernel, by decide +kernel⟩
theorem ok_law_canonical (T : Md K mg) (D : DefAt K mg "_law_canonical" "_law_canonical" (top 68) ["_law_form_here"]) (G_law_ring : Ok P w K mg base 3 "_law_ring" ["_law_form_here"] (spP K Pre_law_ring Post_law_ring)) (G_law_lowered : Ok P w K mg base 2 "_law_lowered" ["_law_form_here"] (spP K Pre_law_lowered Post_law_lowered)) (G_law_split_least : Ok P w K mg base 3 "_law_split_least" ["_law_form_here"] (spP K Pre_law_split_least Post_law_split_least)) (G_law_measure : Ok P w K mg base 1 "_law_measure" ["_law_a", "_law_b"] (spD K R_law_measure)) (G_law_positive : Ok P w K mg base 1 "_law_positive" ["_law_form_here"] (spP K Pre_law_positive Post_law_positive)) (G_law_kind : Ok P w K mg base 3 "_law_kind" ["_law_form_here"] (spD K R_law_kind)) : Ok P w K mg base 4 "_law_canonical" ["_law_form_here"] (spP K Pre_law_canonical Post_law_canonical) := by
  refine ok_rel D sc_law_canonical (fun ds h => by obtain ⟨g, rfl, _⟩ := h; rfl) fun f cdv A outer s H E hr => ?_
  refine ⟨_, (pss_cons (ps_set (i := 1) sc_law_canonical.nd rfl (Or.inl rfl) (pe_callO G_law_kind (hr.mono (by decide)) (by rfl) (pa_cons (pv 0) pa_nil)))
      (pss_cons (ps_if (PW.pt (pw_and (pt_cmpR (op_eqDK (K := K) (by exact rfl) hr.units) (pv 1) pe_str (nomark _)) (pw_and1 (pt_cmpR op_gt (pe_ix (ix_tupK (K := K) (by exact rfl)) (pv 0) pe_int (fun _ _ => rfl)) pe_int (nomark _))))) (pss_one (ps_ret (pe_callO G_law_positive (hr.mono (by decide)) (by rfl) (pa_cons (pv 0) pa_nil)))) pss_nil)
      (pss_cons (ps_if (pt_cmpR (op_eqDK (K := K) (by exact rfl) hr.units) (pv 1) pe_str (nomark _)) (pss_one (ps_ret (pe_callTy (cr_tupK (K := K) (by exact rfl)) (by rfl) T.tuple PyProof.Rows.boot_tuple (pa_cons (pe_lc (own := [("_law_part", 2)]) (g := gName 2) (tt := tYes) rfl sc_law_canonical.nd (pi_tupK (K := K) (by exact rfl) (pe_callO G_law_positive (hr.mono (by decide)) (by rfl) (pa_cons (pe_lc (own := [("_law_part", 2)]) (g := gName 2) (tt := tYes) rfl sc_law_canonical.nd (pi_tupK (K := K) (by exact rfl) (pv 0)) (blkOk_by (N := ["_law_form_here", "_law_sort", "_law_part", "_law_g"]) (sc := defScope (top 68)) (by decide +kernel)) (fun _ _ _ _ _ => pg_name (i := 2) sc_law_canonical.nd rfl (Or.inl rfl)) (fun _ _ _ _ _ => pts_nil) (fun _ _ _ _ _ => (pe_un un_neg (pv 2)))) pa_nil))) (blkOk_by (N := ["_law_form_here", "_law_sort", "_law_part", "_law_g"]) (sc := defScope (top 68)) (by decide +kernel)) (fun _ _ _ _ _ => pg_name (i := 2) sc_law_canonical.nd rfl (Or.inl rfl)) (fun _ _ _ _ _ => pts_nil) (fun _ _ _ _ _ => (pe_un un_neg (pv 2)))) pa_nil)))) pss_nil)
      (pss_cons (ps_if (pt_cmpR (op_eqDK (K := K) (by exact rfl) hr.units) (pv 1) pe_str (nomark _)) (pss_cons (ps_set (i := 3) sc_law_canonical.nd rfl (Or.inl rfl) (pe_callO G_law_measure (hr.mono (by decide)) (by rfl) (pa_cons (pe_callO G_law_measure (hr.mono (by decide)) (by rfl) (pa_cons (pe_ix (ix_tupK (K := K) (by exact rfl)) (pv 0) pe_int (fun _ _ => rfl)) (pa_cons (pe_ix (ix_tupK (K := K) (by exact rfl)) (pv 0) pe_int (fun _ _ => rfl)) pa_nil))) (pa_cons (pe_ix (ix_tupK (K := K) (by exact rfl)) (pv 0) pe_int (fun _ _ => rfl)) pa_nil))))
      (pss_one (ps_ret (pe_tup (pa_cons (pe_ix (ix_listK (K := K) (by exact rfl)) (pe_lst (pa_cons (pv 3) (pa_cons (pe_un un_neg (pv 3)) pa_nil))) (pe_callTy call_int1 (by rfl) T.int PyProof.Rows.boot_int (pa_cons (pe_cmpR op_lt (pe_op op_add (pe_ix (ix_tupK (K := K) (by exact rfl)) (pv 0) pe_int (fun _ _ => rfl)) (pe_ix (ix_tupK (K := K) (by exact rfl)) (pv 0) pe_int (fun _ _ => rfl))) pe_int (nomark _)) pa_nil)) (fun _ _ => rfl)) (pa_cons pe_int (pa_cons pe_int pa_nil))))))) pss_nil)
      (pss_cons (ps_if (pt_cmpR (op_eqDK (K := K) (by exact rfl) hr.units) (pv 1) pe_str (nomark _)) (pss_one (ps_ret (pe_callO G_law_split_least (hr.mono (by decide)) (by rfl) (pa_cons (pv 0) pa_nil)))) pss_nil)
      (pss_one (ps_ret (pe_callB (cr_minDK (K := K) (by exact rfl) rfl hr.units) (by rfl) T.min PyProof.Rows.boot_min (pa_cons (pe_callO G_law_ring (hr.mono (by decide)) (by rfl) (pa_cons (pe_callO G_law_lowered (hr.mono (by decide)) (by rfl) (pa_cons (pv 0) pa_nil)) pa_nil)) pa_nil))))))))), ?_⟩
  rintro _ ⟨g, rfl, h0⟩
  show SD K none _ [.d (dF g), .no, .no, .no] none _ _ _ _
  obtain ⟨bd, lo, hi⟩ := h0
  have b1 := bd.a
  have b2 := bd.b
  have b3 := bd.c
  have hk : EvD K (tCall (spD K R_law_kind) [] E0 (tCons (tVar 0) tNil)) [.d (dF g), .no, .no, .no] none (.str (kn (Mth.dscF g))) := ev_call (ds := [dF g]) (ea_cons (ev_var rfl) ea_nil) (i_law_kind bd (by omega))
  have fin : ∀ (C : Mth.F3), IsCan g C → Post_law_canonical [dF g] (dF C) := by
    intro C a1 g' hg
    have e := dF1 hg
    subst e
    exact ⟨C, rfl, a1⟩
  by_cases hn : Mth.dscF g < 0
  · have ek : kn (Mth.dscF g) = "definite" := if_pos hn
    rw [ek] at hk
    refine q_asg hk ?_
    by_cases hpos : 0 < g.a
    · refine q_take (EvT.is (b := true) (by walk_at "et") (by rw [decide_eq_true hpos]; decide +kernel)) ?_
      refine s_retR (er_callP' (by walk_at "ea") ⟨true, g, rfl, hpos, hn, lo, bd⟩ fun d hd => ?_)
      obtain ⟨f, m, rfl, r1, r2, r3, r4⟩ := hd true g rfl
      exact fin f (.inl ⟨hn, m, r4, r3, .inl ⟨hpos, r1, r2⟩⟩)
    · have hneg : g.a < 0 := by
        rcases Int.lt_or_eq_of_le (Int.not_lt.mp hpos) with z | z
        · exact z
        · have e : Mth.dscF g = g.b * g.b := by
            simp only [Mth.dscF]
            rw [z]
            grind
          have := Int.natAbs_mul_self (a := g.b)
          omega
      have dn : Mth.dscF (Mth.negF g) = Mth.dscF g := by
        simp only [Mth.dscF, Mth.negF]
        grind
      refine q_skip (EvT.is (b := false) (by walk_at "et") (by rw [decide_eq_false hpos, Bool.and_false])) ?_
      refine q_take (EvT.is (b := true) (by walk_at "et") (by decide +kernel)) ?_
      refine s_retR (er_cb (ear_cons (er_neg3 (j := 2) (by exact Nat.le_of_ble_eq_true rfl) (er_callP (ear_cons (er_neg3 (j := 2) (by exact Nat.le_of_ble_eq_true rfl) (EvD.toR (ev_var rfl) ⟨g.a, g.b, g.c, rfl, ear_nil ⟨⟨false, Mth.negF g, rfl, by show 0 < -g.a; omega, by omega, by omega, ⟨b1.neg, b2.neg, b3.neg⟩⟩, fun d hd => ?_⟩⟩)))))))
      obtain ⟨f, m, rfl, r1, r2, r3, r4⟩ := hd false (Mth.negF g) rfl
      refine ⟨f.a, f.b, f.c, rfl, ear_nil ⟨_, rc_tupOf, ?_⟩⟩
      have r5 : Mth.actF g m = Mth.negF f := by
        rw [Mth.act_neg] at r3
        rw [← r3, Mth.neg_neg]
      exact fin (Mth.negF f) (.inl ⟨hn, m, r4, r5, .inr ⟨hneg, by rw [Mth.neg_neg]; exact r1, by rw [Mth.neg_neg]; exact r2⟩⟩)
  · by_cases hz : Mth.dscF g = 0
    · have ek : kn (Mth.dscF g) = "flat" := by
        unfold kn
        rw [if_neg hn, if_pos hz]
      rw [ek] at hk
      refine q_asg hk ?_
      refine q_skip (EvT.is (b := false) (by walk_at "et") (by rw [show decide (("flat" : Str) = "definite") = false by decide +kernel, Bool.false_and])) ?_
      refine q_skip (EvT.is (b := false) (by walk_at "et") (by decide +kernel)) ?_
      refine q_take (EvT.is (b := true) (by walk_at "et") (by decide +kernel)) ?_
      have bG : Bd 44 ((Int.gcd g.a g.b : Nat) : Int) := (gcd_bd (n := 40) b1 b2).mono (by decide)
      refine q_asg (d := .int ((Int.gcd ((Int.gcd g.a g.b : Nat) : Int) g.c : Nat) : Int)) (ev_call (ds := [.int ((Int.gcd g.a g.b : Nat) : Int), .int g.c]) (ea_cons (ev_call (ds := [.int g.a, .int g.b]) (by walk_at "ea") (i_law_measure (b1.mono (by decide)) (b2.mono (by decide)))) (by walk_at "ea")) (i_law_measure bG (b3.mono (by decide)))) ?_
      have eG : glF g = ((Int.gcd ((Int.gcd g.a g.b : Nat) : Int) g.c : Nat) : Int) := gl3 _ _ _
      rw [← eG]
      refine s_ret (d := dF ⟨if g.a + g.c < 0 then -(glF g) else glF g, 0, 0⟩) (ev_tup (ea_cons (ev_op (ev_lst (ds := [.int (glF g), .int (-(glF g))]) (by walk_at "ea") (Nat.le_of_ble_eq_true rfl)) (ev_cb (by walk_at "ea") rc_intB) (rv_ixL ?_)) (by walk_at "ea")) (Nat.le_of_ble_eq_true rfl)) ?_
      · by_cases hs : g.a + g.c < 0
        · simp only [decide_eq_true hs, if_pos hs]
          rfl
        · simp only [decide_eq_false hs, if_neg hs]
          rfl
      · exact fin _ (.inr (.inl ⟨hz, rfl⟩))
    · have hp : 0 < Mth.dscF g := by omega
      cases hs : isSqB (Mth.dscF g) with
      | true =>
        have ek : kn (Mth.dscF g) = "split" := by
          unfold kn
          rw [if_neg hn, if_neg hz, if_pos hs]
        rw [ek] at hk
        refine q_asg hk ?_
        refine q_skip (EvT.is (b := false) (by walk_at "et") (by rw [show decide (("split" : Str) = "definite") = false by decide +kernel, Bool.false_and])) ?_
        refine q_skip (EvT.is (b := false) (by walk_at "et") (by decide +kernel)) ?_
        refine q_skip (EvT.is (b := false) (by walk_at "et") (by decide +kernel)) ?_
        refine q_take (EvT.is (b := true) (by walk_at "et") (by decide +kernel)) ?_
        refine s_retR (er_callP' (by walk_at "ea") ⟨g, rfl, spl_of hp hs hi, bd⟩ fun d hd => ?_)
        obtain ⟨C, rfl, c1⟩ := hd g rfl
        exact fin C (.inr (.inr (.inl ⟨hp, hs, c1⟩)))
      | false =>
        have ek : kn (Mth.dscF g) = "indefinite" := by
          unfold kn
          rw [if_neg hn, if_neg hz, if_neg (by rw [hs]; decide)]
        rw [ek] at hk
        refine q_asg hk ?_
        refine q_skip (EvT.is (b := false) (by walk_at "et") (by rw [show decide (("indefinite" : Str) = "definite") = false by decide +kernel, Bool.false_and])) ?_
        refine q_skip (EvT.is (b := false) (by walk_at "et") (by decide +kernel)) ?_
        refine q_skip (EvT.is (b := false) (by walk_at "et") (by decide +kernel)) ?_
        refine q_skip (EvT.is (b := false) (by walk_at "et") (by decide +kernel)) ?_
        have h1 := rt_of hp hs hi
        refine s_retR (er_cb (ear_cons (er_callP (ear_cons (er_callP' (by walk_at "ea") ⟨g, rfl, h1, bd⟩ fun d hd => ear_nil ?_)))))
        obtain ⟨f, rfl, low⟩ := hd g rfl
        have e1 : Mth.dscF f = Mth.dscF g := by
          obtain ⟨k, e, _⟩ := low
          rw [e]
          exact Mth.it_dsc _ _ k
        have hsf : sI f = sI g := by
          show isq (Mth.dscF f) = _
          rw [e1]
        have rt : RtF f := by
          show Mth.Rt (isq (Mth.dscF f)) (Mth.dscF f)
          rw [e1]
          exact h1
        have bf : BdF 40 f := by
          obtain ⟨k, e, _⟩ := low
          rw [e]
          exact it_bdF h1 bd k
        have red : Mth.redI (sI f) f := by
          rw [hsf]
          exact low.choose_spec.2.1
        refine ⟨⟨f, rfl, rt, bf, red⟩, fun d hd => ear_nil ?_⟩
        obtain ⟨n, per, nle, rfl⟩ := hd f rfl
        obtain ⟨xs, hxs⟩ := Mth.ring_cons (sI f) f per.1
        rw [hxs, List.map_cons]
        refine ⟨dF (Mth.leastF f xs), rc_minD (x := dF f) (ds := xs.map fun g => dF g) (alike_F (f :: xs)) (depth_F (f :: xs)) (minD_F f xs), ?_⟩
        exact fin _ (.inr (.inr (.inr ⟨hp, hs, f, n, xs, low, by rw [← hsf]; exact per, by rw [← hsf]; exact hxs, rfl⟩)))


end
end Kx

-- K16
set_option maxHeartbeats 2000000
namespace Kx
open PySem PySem.Spec PyProof.Rows L2
local macro_rules | `(tactic| walk_at "bd") => `(tactic| first | assumption | exact Bd.lit (by decide) | ((with_reducible apply Bd.mul) <;> walk_at "bd") | ((with_reducible apply Bd.add) <;> walk_at "bd") | ((with_reducible apply Bd.sub) <;> walk_at "bd") | ((with_reducible apply Bd.neg); walk_at "bd"))
local macro_rules | `(tactic| walk_at "mul") => `(tactic| first | assumption | exact mulok_l (Bd.mono (by walk_at "bd") (by omega)) | exact mulok_r (Bd.mono (by walk_at "bd") (by omega)) | ((with_reducible apply mulok); (focus walk_at "bd"); (focus walk_at "bd"); omega))
local macro_rules | `(tactic| walk_at "cond") => `(tactic| first | assumption | walk_at "mul" | exact cfd (by first | assumption | omega) (by walk_at "bd") (by omega) | omega | decide)
local macro_rules | `(tactic| walk_at "rv") => `(tactic| first | with_reducible exact rv_I0 | with_reducible exact rv_B0 | with_reducible exact rv_eqI | with_reducible exact rv_neI | with_reducible exact rv_eqF | with_reducible exact rv_neF | with_reducible exact rv_eqS | ((with_reducible apply rv_I); walk_at "cond") | ((with_reducible apply rv_ixT); exact rfl) | ((with_reducible apply rv_ixL); exact rfl) | with_reducible exact rv_isN | with_reducible exact rv_notN | exact rv_cat (Nat.le_of_ble_eq_true rfl))
local macro_rules | `(tactic| walk_at "ev") => `(tactic| first
  | ((with_reducible apply ev_var); exact rfl) | with_reducible exact ev_int | with_reducible exact ev_bl | with_reducible exact ev_str | with_reducible exact ev_non | exact ev_quad (by assumption)
  | ((with_reducible apply ev_op); (focus walk_at "ev"); (focus walk_at "ev"); (focus walk_at "rv"))
  | ((with_reducible apply ev_un); (focus walk_at "ev"); with_reducible exact ru_I)
  | ((with_reducible apply ev_tup); (focus walk_at "ea"); exact Nat.le_of_ble_eq_true rfl)
  | ((with_reducible apply ev_lst); (focus walk_at "ea"); exact Nat.le_of_ble_eq_true rfl)
  | ((with_reducible apply ev_call); (focus walk_at "ea"); (focus walk_at "call"))
  | ((with_reducible apply ev_cb); (focus walk_at "ea"); (focus walk_at "rc"))
  | ((with_reducible apply ev_andV); (focus walk_at "ev"); (intro hh_; (focus walk_at "ev")))
  | ((with_reducible apply ev_orV); (focus walk_at "ev"); (intro hh_; (focus walk_at "ev")))
  | ((with_reducible apply ev_chain); (focus walk_at "ev"); (focus walk_at "ev"); (focus walk_at "rv"); (intro hh_; (focus walk_at "ev")); (intro hh_; (focus walk_at "rv")))
  | ((with_reducible apply ev_notV); walk_at "ev")
  | ((with_reducible apply ev_cut2); walk_at "ev"))
local macro_rules | `(tactic| walk_at "ea") => `(tactic| first | with_reducible exact ea_nil | ((with_reducible apply ea_cons); (focus walk_at "ev"); (focus walk_at "ea")))
local macro_rules | `(tactic| walk_at "rc") => `(tactic| first | with_reducible exact rc_abs | with_reducible exact rc_intI | with_reducible exact rc_intB | with_reducible exact rc_lenL | with_reducible exact rc_tupOf | exact rc_isq (by assumption) (by assumption) | exact rc_isq (by omega) (by omega))
local macro_rules | `(tactic| walk_at "et") => `(tactic| first
  | ((with_reducible apply et_test); walk_at "ev")
  | ((with_reducible apply et_B); walk_at "ev")
  | ((with_reducible apply et_and); (focus walk_at "et"); (intro hh_; (focus walk_at "et")))
  | ((with_reducible apply et_or); (focus walk_at "et"); (intro hh_; (focus walk_at "et")))
  | ((with_reducible apply et_not); walk_at "et"))
local macro_rules | `(tactic| walk_at "tg") => `(tactic| first | with_reducible exact tg_name | ((with_reducible apply tg_tup); (focus walk_at "tgs"); exact rfl) | ((with_reducible apply tg_unl); (focus walk_at "tgs"); exact rfl))
local macro_rules | `(tactic| walk_at "tgs") => `(tactic| first | with_reducible exact tg_nil | ((with_reducible apply tg_cons); (focus walk_at "tg"); (focus walk_at "tgs")))
local macro_rules | `(tactic| walk_at "pre") => `(tactic| first | assumption | walk_at "bd" | exact Bd.mono (by walk_at "bd") (by omega) | omega | decide)

local macro_rules | `(tactic| walk_at "call") => `(tactic| ((with_reducible apply i_worth); all_goals (walk_at "pre")))

local macro_rules | `(tactic| walk_at "call") => `(tactic| ((with_reducible apply i_act); all_goals (walk_at "pre")))

local macro_rules | `(tactic| walk_at "call") => `(tactic| ((with_reducible apply i_discriminant); all_goals (walk_at "pre")))

local macro_rules | `(tactic| walk_at "call") => `(tactic| ((with_reducible apply i_scaled); all_goals (walk_at "pre")))

local macro_rules | `(tactic| walk_at "call") => `(tactic| ((with_reducible apply i_divided); all_goals (walk_at "pre")))

local macro_rules | `(tactic| walk_at "call") => `(tactic| ((with_reducible apply i_multiply); all_goals (walk_at "pre")))

local macro_rules | `(tactic| walk_at "call") => `(tactic| ((with_reducible apply i_determinant); all_goals (walk_at "pre")))

local macro_rules | `(tactic| walk_at "call") => `(tactic| ((with_reducible apply i_inverse); all_goals (walk_at "pre")))

local macro_rules | `(tactic| walk_at "call") => `(tactic| ((with_reducible apply i_floor_root); all_goals (walk_at "pre")))

local macro_rules | `(tactic| walk_at "call") => `(tactic| ((with_reducible apply i_is_square); all_goals (walk_at "pre")))

local macro_rules | `(tactic| walk_at "call") => `(tactic| ((with_reducible apply i_kind); all_goals (walk_at "pre")))

local macro_rules | `(tactic| walk_at "call") => `(tactic| ((with_reducible apply i_is_reduced_definite)))


local macro_rules | `(tactic| walk_at "call") => `(tactic| ((with_reducible apply i_measure); all_goals (walk_at "pre")))

local macro_rules | `(tactic| walk_at "call") => `(tactic| ((with_reducible apply i_content); all_goals (walk_at "pre")))

local macro_rules | `(tactic| walk_at "call") => `(tactic| ((with_reducible apply i_is_reduced_indefinite); all_goals (walk_at "pre")))

local macro_rules | `(tactic| walk_at "call") => `(tactic| ((with_reducible apply i_step_of); all_goals (walk_at "pre")))

local macro_rules | `(tactic| walk_at "call") => `(tactic| ((with_reducible apply i_law_root); all_goals (walk_at "pre")))

local macro_rules | `(tactic| walk_at "call") => `(tactic| ((with_reducible apply i_law_square); all_goals (walk_at "pre")))

local macro_rules | `(tactic| walk_at "call") => `(tactic| ((with_reducible apply i_law_kind); all_goals (walk_at "pre")))

local macro_rules | `(tactic| walk_at "call") => `(tactic| ((with_reducible apply i_law_is_reduced); all_goals (walk_at "pre")))

local macro_rules | `(tactic| walk_at "call") => `(tactic| ((with_reducible apply i_law_neighbour); all_goals (walk_at "pre")))

local macro_rules | `(tactic| walk_at "call") => `(tactic| ((with_reducible apply i_law_worth); all_goals (walk_at "pre")))

local macro_rules | `(tactic| walk_at "call") => `(tactic| ((with_reducible apply i_law_act); all_goals (walk_at "pre")))

local macro_rules | `(tactic| walk_at "call") => `(tactic| ((with_reducible apply i_law_mul); all_goals (walk_at "pre")))

local macro_rules | `(tactic| walk_at "call") => `(tactic| ((with_reducible apply i_law_measure); all_goals (walk_at "pre")))

local macro_rules | `(tactic| walk_at "call") => `(tactic| ((with_reducible apply i_discF); assumption))
local macro_rules | `(tactic| walk_at "cond") => `(tactic| exact (⟨by decide, by decide, by decide⟩ : CPow _ _))

def Cnt (cs : List PyData) (n : Int) : Prop := ∃ ns : List Int, ns.length = 120 ∧ cs = [.list (ns.map .int), .int n]
theorem cnt_inj {cs : List PyData} {n m : Int} (h : Cnt cs n) (k : Cnt cs m) : n = m := by
  obtain ⟨a, _, e⟩ := h
  obtain ⟨b, _, e2⟩ := k
  rw [e] at e2
  injection e2 with _ e3
  injection e3 with e4 _
  injection e4
theorem atI_ints {ns : List Int} {j : Int} (h0 : 0 ≤ j) (h1 : j < ns.length) : ∃ v, atI (ns.map PyData.int) j = some (.int v) := by
  have h2 : j.toNat < ns.length := by omega
  refine ⟨ns[j.toNat], ?_⟩
  unfold atI ixN
  rw [if_pos h0]
  simp [h1, h2]

section
variable {P : Program} {w : World} {K : Fg} {mg : Str → Option Value} {base : Heap}

def Pre_law_cell (ds : List PyData) : Prop := ∃ (xs : List Int) (k : Int), ds = [.list (xs.map .int), .int k] ∧ 0 ≤ k
def Post_law_cell (ds : List PyData) (d : PyData) : Prop := ∀ (xs : List Int) (k : Int), ds = [.list (xs.map .int), .int k] → ∃ v : Int, d = .int v

theorem sc_law_cell : FnScope ["_law_script", "_law_k"] ["_law_script", "_law_k"] (defScope (top 44)) := ⟨rfl, rfl, rfl, by decide +kernel, rfl, by decide +kernel, by decide +kernel⟩
theorem ok_law_cell (T : Md K mg) (D : DefAt K mg "_law_cell" "_law_cell" (top 44) ["_law_script", "_law_k"])  : Ok P w K mg base 1 "_law_cell" ["_law_script", "_law_k"] (spP K Pre_law_cell Post_law_cell) := by
  refine ok_rel D sc_law_cell (fun ds h => by obtain ⟨xs, k, rfl, _⟩ := h; rfl) fun f cdv A outer s H E hr => ?_
  refine ⟨_, (pss_cons (ps_if (pt_cmpR op_lt (pv 1) (pe_callB (cr_lenK (K := K) (by exact rfl)) (by rfl) T.len PySem.boot_len (pa_cons (pv 0) pa_nil)) (nomark _)) (pss_one (ps_ret (pe_ix (ix_listK (K := K) (by exact rfl)) (pv 0) (pv 1) (fun _ _ => rfl)))) pss_nil)
      (pss_one (ps_ret pe_int))), ?_⟩
  rintro _ ⟨xs, k, rfl, h0⟩
  show SD K none _ [.d (.list (xs.map .int)), .d (.int k)] none _ _ _ _
  refine s_seq (M := fun e o => e = [.d (.list (xs.map .int)), .d (.int k)] ∧ o = none) (s_if (b := decide (k < ((xs.map PyData.int).length : Int))) (by walk_at "et") (fun hh => ?_) fun hh => s_next ⟨rfl, rfl⟩) ?_
  · have h2 := of_decide_eq_true hh
    rw [List.length_map] at h2
    obtain ⟨v, hv⟩ := atI_ints h0 h2
    exact s_ret (ev_op (ev_var rfl) (ev_var rfl) (rv_ixL hv)) fun _ _ _ => ⟨v, rfl⟩
  · rintro _ _ ⟨rfl, rfl⟩
    exact s_ret (d := .int 0) (by walk_at "ev") fun _ _ _ => ⟨0, rfl⟩


def Pre_law_numbers (ds : List PyData) : Prop := ∃ (c : Int), ds = [.int c, .int 40]
def Post_law_numbers (ds : List PyData) (d : PyData) : Prop := ∀ (c : Int), ds = [.int c, .int 40] → ∃ ns : List Int, d = .list (ns.map .int) ∧ ns.length = 40

def LnI (c : Int) (i : Nat) (e : List Sl) (o : OS) : Prop := ∃ (rest : Int) (z5 z6 : Sl) (ns : List Int), e = [.d (.int c), .d (.int 40), .d (.int rest), .d (.int (c.natAbs : Int)), .own, z5, z6] ∧ o = some (ns.map .int) ∧ ns.length = i
theorem sc_law_numbers : FnScope ["_law_cell_here", "_law_many", "_law_rest", "_law_span", "_law_numbers_here", "_law_k", "_law_mixed"] ["_law_cell_here", "_law_many"] (defScope (top 45)) := ⟨rfl, rfl, rfl, by decide +kernel, rfl, by decide +kernel, by decide +kernel⟩
theorem ok_law_numbers (T : Md K mg) (D : DefAt K mg "_law_numbers" "_law_numbers" (top 45) ["_law_cell_here", "_law_many"])  : Ok P w K mg base 1 "_law_numbers" ["_law_cell_here", "_law_many"] (spP K Pre_law_numbers Post_law_numbers) := by
  refine ok_rel D sc_law_numbers (fun ds h => by obtain ⟨c, rfl, _⟩ := h; rfl) fun f cdv A outer s H E hr => ?_
  refine ⟨_, (pss_cons (ps_set (i := 2) sc_law_numbers.nd rfl (Or.inl rfl) (pe_callB call_abs (by rfl) T.abs (by decide +kernel) (pa_cons (pv 0) pa_nil)))
      (pss_cons (ps_set (i := 3) sc_law_numbers.nd rfl (Or.inl rfl) (pv 2))
      (pss_cons (ps_set (i := 4) sc_law_numbers.nd rfl (Or.inl rfl) (pe_lst pa_nil))
      (pss_cons (ps_for PassesOwn.never rfl (pi_range1 (by rfl) T.range (pa_cons (pv 1) pa_nil)) (pg_name (i := 5) sc_law_numbers.nd rfl (Or.inl rfl)) (pss_one (ps_if (PW.pt (pw_and (pt_cmpR op_ge (pv 3) (pe_op op_pow pe_int pe_int) (nomark _)) (pw_and1 (pt_cmpR op_gt (pv 2) pe_int (nomark _))))) (pss_cons (ps_expr (pe_appK (K := K) (by exact rfl) (pv 4) (pe_op op_modN (pe_callTy call_int1 (by rfl) T.int PyProof.Rows.boot_int (pa_cons (pv 2) pa_nil)) pe_int)))
      (pss_one (ps_set (i := 2) sc_law_numbers.nd rfl (Or.inl rfl) (pe_op op_fdX (pv 2) pe_int)))) (pss_cons (ps_set (i := 6) sc_law_numbers.nd rfl (Or.inl rfl) (pe_op op_modN (pe_callTy call_int1 (by rfl) T.int PyProof.Rows.boot_int (pa_cons (pe_op op_add (pe_op op_add (pe_op op_mulX (pv 3) pe_int) (pe_op op_mulX (pv 5) pe_int)) pe_int) pa_nil)) pe_int))
      (pss_cons (ps_set (i := 6) sc_law_numbers.nd rfl (Or.inl rfl) (pe_op op_modN (pe_callTy call_int1 (by rfl) T.int PyProof.Rows.boot_int (pa_cons (pe_op op_add (pe_op op_add (pe_op op_mulX (pv 6) (pv 6)) (pe_op op_mulX pe_int (pv 5))) pe_int) pa_nil)) pe_int))
      (pss_one (ps_expr (pe_appK (K := K) (by exact rfl) (pv 4) (pe_op op_modN (pe_callTy call_int1 (by rfl) T.int PyProof.Rows.boot_int (pa_cons (pe_op op_fdX (pv 6) pe_int) pa_nil)) pe_int)))))))))
      (pss_one (ps_ret (pv 4))))))), ?_⟩
  rintro _ ⟨c, rfl⟩
  show SD K none _ [.d (.int c), .d (.int 40), .no, .no, .no, .no, .no] none _ _ _ _
  refine q_asg (by walk_at "ev") ?_
  refine q_asg (by walk_at "ev") ?_
  refine s_seq (M := LnI c 0) (s_new rfl ea_nil (Nat.le_of_ble_eq_true rfl) ⟨_, _, _, [], rfl, rfl, rfl⟩) ?_
  rintro _ _ ⟨rest, z5, z6, ns, rfl, rfl, hl⟩
  refine s_seq (M := LnI c 40) (s_forR (LnI c) ((by walk_at "ea" : EvA K _ _ _ [.int 40]).toR ⟨40, rfl, by decide, by decide, ⟨rest, z5, z6, ns, rfl, rfl, hl⟩, ?_, fun e o h => h⟩)) ?_
  · rintro i _ _ hi ⟨rest, z5, z6, ns, rfl, rfl, hl⟩
    have bi : Bd 40 (i : Int) := Bd.of (by omega)
    refine s_if (et_and (et_test (ev_op (ev_var rfl) (ev_op ev_int ev_int (rv_I (C := CPow) (g := fun i j => i ^ j.toNat) ⟨by decide, by decide, by decide⟩)) rv_B0)) fun _ => by walk_at "et") (fun _ => ?_) fun _ => ?_
    · refine s_seq1 (s_app (ds := ns.map .int) rfl (by walk_at "ev") (by rw [List.length_map]; omega) ⟨rfl, rfl⟩) ?_
      exact s_asg (by walk_at "ev") ⟨_, _, _, ns ++ [rest.fmod 1000], rfl, by rw [List.map_append]; rfl, by rw [List.length_append, hl]; rfl⟩
    · refine q_asg (d := .int ((((c.natAbs : Int) * 48271 + (i : Int) * 69621 + 11).fmod 2147483647))) (by walk_at "ev") ?_
      have bm : Bd 40 (((c.natAbs : Int) * 48271 + (i : Int) * 69621 + 11).fmod 2147483647) := Bd.of (by
        have h1 := Int.fmod_lt_of_pos ((c.natAbs : Int) * 48271 + (i : Int) * 69621 + 11) (show (0 : Int) < 2147483647 by decide)
        have h2 := Int.fmod_nonneg_of_pos ((c.natAbs : Int) * 48271 + (i : Int) * 69621 + 11) (show (0 : Int) < 2147483647 by decide)
        omega)
      generalize ((c.natAbs : Int) * 48271 + (i : Int) * 69621 + 11).fmod 2147483647 = x at *
      refine q_asg (d := .int ((x * x + 40692 * (i : Int) + 3).fmod 2147483629)) (by walk_at "ev") ?_
      generalize (x * x + 40692 * (i : Int) + 3).fmod 2147483629 = y at *
      exact s_app (ds := ns.map .int) (d := .int ((y.fdiv 7).fmod 1000)) rfl (by walk_at "ev") (by rw [List.length_map]; omega) ⟨_, _, _, ns ++ [(y.fdiv 7).fmod 1000], rfl, by rw [List.map_append]; rfl, by rw [List.length_append, hl]; rfl⟩
  rintro _ _ ⟨rest, z5, z6, ns, rfl, rfl, hl⟩
  exact s_retOwn rfl fun _ _ => ⟨ns, rfl, hl⟩


def Pre_law_state (ds : List PyData) : Prop := ∃ (xs : List Int), ds = [.list (xs.map .int)]
def Post_law_state (ds : List PyData) (cs : List PyData) : Prop := Cnt cs 0

def LstI (xs : List Int) (i : Nat) (e : List Sl) (o : OS) : Prop := ∃ (z : Sl) (ns : List Int), e = [.d (.list (xs.map .int)), .d (.list (ns.map .int)), z] ∧ o = none ∧ ns.length = 40 * i
theorem sc_law_state : FnScope ["_law_script", "_law_numbers_here", "_law_k"] ["_law_script"] (defScope (top 46)) := ⟨rfl, rfl, rfl, by decide +kernel, rfl, by decide +kernel, by decide +kernel⟩
theorem ok_law_state (T : Md K mg) (D : DefAt K mg "_law_state" "_law_state" (top 46) ["_law_script"]) (G_law_numbers : Ok P w K mg base 1 "_law_numbers" ["_law_cell_here", "_law_many"] (spP K Pre_law_numbers Post_law_numbers)) (G_law_cell : Ok P w K mg base 1 "_law_cell" ["_law_script", "_law_k"] (spP K Pre_law_cell Post_law_cell)) : Ok P w K mg base 2 "_law_state" ["_law_script"] (spO K Pre_law_state Post_law_state) := by
  refine ok_out D sc_law_state (fun ds h => by obtain ⟨xs, rfl, _⟩ := h; rfl) fun f cdv A outer s H E hr => ?_
  refine ⟨_, (pss_cons (ps_set (i := 1) sc_law_state.nd rfl (Or.inl rfl) (pe_lst pa_nil))
      (pss_cons (ps_for PassesOwn.never rfl (pi_range1 (by rfl) T.range (pa_cons pe_int pa_nil)) (pg_name (i := 2) sc_law_state.nd rfl (Or.inl rfl)) (pss_one (ps_set (i := 1) sc_law_state.nd rfl (Or.inl rfl) (pe_op (op_catK (K := K) (by exact rfl)) (pv 1) (pe_callO G_law_numbers (hr.mono (by decide)) (by rfl) (pa_cons (pe_op op_add (pe_callB call_abs (by rfl) T.abs (by decide +kernel) (pa_cons (pe_callO G_law_cell (hr.mono (by decide)) (by rfl) (pa_cons (pv 0) (pa_cons (pv 2) pa_nil))) pa_nil)) (pe_op op_mulX pe_int (pv 2))) (pa_cons pe_int pa_nil)))))))
      (pss_one (ps_ret (pe_lst (pa_cons (pv 1) (pa_cons pe_int pa_nil))))))), ?_⟩
  rintro _ ⟨xs, rfl⟩
  show SDo K _ [.d (.list (xs.map .int)), .no, .no] _
  refine so_seq (M := LstI xs 0) (s_asg (d := .list []) (by walk_at "ev") ⟨_, [], rfl, rfl, rfl⟩) ?_
  rintro _ _ ⟨z, ns, rfl, rfl, hl⟩
  refine ⟨rfl, so_seq (M := LstI xs 3) (s_forR (LstI xs) ((by walk_at "ea" : EvA K _ _ _ [.int 3]).toR ⟨3, rfl, by decide, by decide, ⟨z, ns, rfl, rfl, hl⟩, ?_, fun e o h => h⟩)) ?_⟩
  · rintro i _ _ hi ⟨z, ns, rfl, rfl, hl⟩
    refine s_asgR (er_op (EvD.toR (ev_var rfl) ?_))
    have arg : EvR K (tCB _ (tCons (tCall (spP K Pre_law_cell Post_law_cell) [] E0 (tCons (tVar 0) (tCons (tVar 2) tNil))) tNil)) [.d (.list (xs.map .int)), .d (.list (ns.map .int)), .d (.int (i : Int))] none fun d o2 => o2 = none ∧ ∃ v : Int, d = .int v := er_cb (ear_cons (er_callP' (ds := [.list (xs.map .int), .int (i : Int)]) (by walk_at "ea") ⟨xs, i, rfl, by omega⟩ fun d hd => ear_nil (by
      obtain ⟨v, rfl⟩ := hd xs i rfl
      exact ⟨_, rc_abs, rfl, _, rfl⟩)))
    refine er_callP (ear_cons (er_op (arg.imp ?_)))
    rintro _ _ ⟨rfl, v, rfl⟩
    refine EvD.toR (ev_op ev_int (ev_var rfl) (rv_I (mulok_l (Bd.of (by decide))))) ?_
    refine ⟨_, rv_I0, ?_⟩
    refine (ea_cons ev_int ea_nil).toR ?_
    refine ⟨⟨_, rfl⟩, fun d hd => ?_⟩
    obtain ⟨ms, rfl, hm⟩ := hd _ rfl
    refine ⟨_, rv_cat (by rw [List.length_map, List.length_map]; omega), _, tg_name, ?_⟩
    exact ⟨_, ns ++ ms, by rw [List.map_append]; rfl, rfl, by rw [List.length_append]; omega⟩
  rintro _ _ ⟨z, ns, rfl, rfl, hl⟩
  exact ⟨rfl, so_ret (by walk_at "ea") (Nat.le_of_ble_eq_true rfl) ⟨ns, hl, rfl⟩⟩


def Pre_law_next (ds cs : List PyData) : Prop := ∃ (m : Int) (n : Int), ds = [.int m] ∧ 0 < m ∧ Cnt cs n ∧ 0 ≤ n ∧ n ≤ 100000
def Post_law_next (ds cs : List PyData) (d : PyData) (es : List PyData) : Prop := ∀ n, Cnt cs n → ∃ n', Cnt es n' ∧ n ≤ n' ∧ n' ≤ n + 1 ∧ (∀ (m : Int), ds = [.int m] → ∃ v : Int, d = .int v ∧ 0 ≤ v ∧ v < m)

theorem sc_law_next : FnScope ["_law_state_here", "_law_many", "_law_number"] ["_law_state_here", "_law_many"] (defScope (top 47)) := ⟨rfl, rfl, rfl, by decide +kernel, rfl, by decide +kernel, by decide +kernel⟩
theorem ok_law_next (T : Md K mg) (D : DefAt K mg "_law_next" "_law_next" (top 47) ["_law_state_here", "_law_many"])  : Ok P w K mg base 1 "_law_next" ["_law_state_here", "_law_many"] (spS K Pre_law_next Post_law_next) := by
  refine ok_own D sc_law_next (fun ds cs h => by obtain ⟨m, n, rfl, _⟩ := h; rfl) fun f cdv A outer s H E hr => ?_
  refine ⟨_, (pss_cons (ps_asg (pe_op op_add (pe_ix (ix_listK (K := K) (by exact rfl)) (pv 0) pe_int (fun _ _ => rfl)) pe_int) (pg_sub (pv 0) pe_int set_list))
      (pss_cons (ps_set (i := 2) sc_law_next.nd rfl (Or.inl rfl) (pe_op op_add (pe_ix (ix_listK (K := K) (by exact rfl)) (pe_ix (ix_listK (K := K) (by exact rfl)) (pv 0) pe_int (fun _ _ => rfl)) (pe_op op_modN (pe_callTy call_int1 (by rfl) T.int PyProof.Rows.boot_int (pa_cons (pe_op op_mulX (pe_ix (ix_listK (K := K) (by exact rfl)) (pv 0) pe_int (fun _ _ => rfl)) pe_int) pa_nil)) (pe_callB (cr_lenK (K := K) (by exact rfl)) (by rfl) T.len PySem.boot_len (pa_cons (pe_ix (ix_listK (K := K) (by exact rfl)) (pv 0) pe_int (fun _ _ => rfl)) pa_nil))) (fun _ _ => rfl)) (pe_op op_mulX (pe_op op_mulX pe_int (pe_ix (ix_listK (K := K) (by exact rfl)) (pv 0) pe_int (fun _ _ => rfl))) (pe_op op_add pe_int (pe_op op_fdX (pe_ix (ix_listK (K := K) (by exact rfl)) (pv 0) pe_int (fun _ _ => rfl)) (pe_callB (cr_lenK (K := K) (by exact rfl)) (by rfl) T.len PySem.boot_len (pa_cons (pe_ix (ix_listK (K := K) (by exact rfl)) (pv 0) pe_int (fun _ _ => rfl)) pa_nil)))))))
      (pss_one (ps_ret (pe_op op_modN (pe_callTy call_int1 (by rfl) T.int PyProof.Rows.boot_int (pa_cons (pv 2) pa_nil)) (pv 1)))))), ?_⟩
  rintro l _ cs ⟨m, n, rfl, h0, hc, n0, n1⟩
  show SD K (some l) _ [.own, .d (.int m), .no] (some cs) _ _ _ _
  obtain ⟨ns, hl, rfl⟩ := hc
  refine s_seq1 (s_setOwn (d := .int (n + 1)) (n := 1) rfl (ev_op (ev_ixOwn rfl ev_int rfl) ev_int rv_I0) ev_int rfl ⟨rfl, rfl⟩) ?_
  have hst : EvD K (tOp (rIxL K) (tVar 0) (tC (.int 1))) [.own, .d (.int m), .no] (some [.list (ns.map .int), .int (n + 1)]) (.int (n + 1)) := ev_ixOwn rfl ev_int rfl
  have hls : EvD K (tOp (rIxL K) (tVar 0) (tC (.int 0))) [.own, .d (.int m), .no] (some [.list (ns.map .int), .int (n + 1)]) (.list (ns.map .int)) := ev_ixOwn rfl ev_int rfl
  have hlen : EvD K (tCB (rLenQ K) (tCons (tOp (rIxL K) (tVar 0) (tC (.int 0))) tNil)) [.own, .d (.int m), .no] (some [.list (ns.map .int), .int (n + 1)]) (.int 120) := EvD.is (ev_cb (ea_cons hls ea_nil) rc_lenL) (by rw [List.length_map, hl]; rfl)
  have bn : Bd 40 (n + 1) := Bd.of (by omega)
  have g1 := Int.fmod_lt_of_pos ((n + 1) * 7) (show (0 : Int) < 120 by decide)
  have g2 := Int.fmod_nonneg_of_pos ((n + 1) * 7) (show (0 : Int) < 120 by decide)
  obtain ⟨v, hv⟩ := atI_ints (ns := ns) g2 (by omega)
  have bq : Bd 40 ((n + 1).fdiv 120) := bd_fdiv (by decide) bn
  refine q_asg (ev_op (ev_op hls (ev_op (ev_cb (ea_cons (ev_op hst ev_int (rv_I (mulok_l (bn.mono (by decide))))) ea_nil) rc_intI) hlen (rv_I (by decide))) (rv_ixL hv)) (ev_op (ev_op ev_int hst (rv_I (mulok_l (Bd.of (by decide))))) (ev_op ev_int (ev_op hst hlen (rv_I (cfd (n := 40) (by decide) (Bd.of (by decide)) (by decide)))) rv_I0) (rv_I (mulok_r (Bd.mono (Bd.add (n := 40) (Bd.of (by decide)) bq) (by decide))))) rv_I0) ?_
  refine s_ret (ev_op (ev_cb (ea_cons (ev_var rfl) ea_nil) rc_intI) (ev_var rfl) (rv_I (show m ≠ 0 by omega))) ⟨_, rfl, ?_⟩
  intro n' hn'
  have en : n' = n := cnt_inj hn' ⟨ns, hl, rfl⟩
  subst en
  refine ⟨n' + 1, ⟨ns, hl, rfl⟩, by omega, by omega, fun m' hm => ?_⟩
  injection hm with hm2 _
  injection hm2 with hm3
  subst hm3
  exact ⟨_, rfl, Int.fmod_nonneg_of_pos _ h0, Int.fmod_lt_of_pos _ h0⟩


end
end Kx

-- K17
set_option maxHeartbeats 2000000
namespace Kx
open PySem PySem.Spec PyProof.Rows L2
local macro_rules | `(tactic| walk_at "bd") => `(tactic| first | assumption | exact Bd.lit (by decide) | ((with_reducible apply Bd.mul) <;> walk_at "bd") | ((with_reducible apply Bd.add) <;> walk_at "bd") | ((with_reducible apply Bd.sub) <;> walk_at "bd") | ((with_reducible apply Bd.neg); walk_at "bd"))
local macro_rules | `(tactic| walk_at "mul") => `(tactic| first | assumption | exact mulok_l (Bd.mono (by walk_at "bd") (by omega)) | exact mulok_r (Bd.mono (by walk_at "bd") (by omega)) | ((with_reducible apply mulok); (focus walk_at "bd"); (focus walk_at "bd"); omega))
local macro_rules | `(tactic| walk_at "cond") => `(tactic| first | assumption | walk_at "mul" | exact cfd (by first | assumption | omega) (by walk_at "bd") (by omega) | omega | decide)
local macro_rules | `(tactic| walk_at "rv") => `(tactic| first | with_reducible exact rv_I0 | with_reducible exact rv_B0 | with_reducible exact rv_eqI | with_reducible exact rv_neI | with_reducible exact rv_eqF | with_reducible exact rv_neF | with_reducible exact rv_eqS | ((with_reducible apply rv_I); walk_at "cond") | ((with_reducible apply rv_ixT); exact rfl) | ((with_reducible apply rv_ixL); exact rfl) | with_reducible exact rv_isN | with_reducible exact rv_notN | exact rv_cat (Nat.le_of_ble_eq_true rfl))
local macro_rules | `(tactic| walk_at "ev") => `(tactic| first
  | ((with_reducible apply ev_var); exact rfl) | with_reducible exact ev_int | with_reducible exact ev_bl | with_reducible exact ev_str | with_reducible exact ev_non | exact ev_quad (by assumption)
  | ((with_reducible apply ev_op); (focus walk_at "ev"); (focus walk_at "ev"); (focus walk_at "rv"))
  | ((with_reducible apply ev_un); (focus walk_at "ev"); with_reducible exact ru_I)
  | ((with_reducible apply ev_tup); (focus walk_at "ea"); exact Nat.le_of_ble_eq_true rfl)
  | ((with_reducible apply ev_lst); (focus walk_at "ea"); exact Nat.le_of_ble_eq_true rfl)
  | ((with_reducible apply ev_call); (focus walk_at "ea"); (focus walk_at "call"))
  | ((with_reducible apply ev_cb); (focus walk_at "ea"); (focus walk_at "rc"))
  | ((with_reducible apply ev_andV); (focus walk_at "ev"); (intro hh_; (focus walk_at "ev")))
  | ((with_reducible apply ev_orV); (focus walk_at "ev"); (intro hh_; (focus walk_at "ev")))
  | ((with_reducible apply ev_chain); (focus walk_at "ev"); (focus walk_at "ev"); (focus walk_at "rv"); (intro hh_; (focus walk_at "ev")); (intro hh_; (focus walk_at "rv")))
  | ((with_reducible apply ev_notV); walk_at "ev")
  | ((with_reducible apply ev_cut2); walk_at "ev"))
local macro_rules | `(tactic| walk_at "ea") => `(tactic| first | with_reducible exact ea_nil | ((with_reducible apply ea_cons); (focus walk_at "ev"); (focus walk_at "ea")))
local macro_rules | `(tactic| walk_at "rc") => `(tactic| first | with_reducible exact rc_abs | with_reducible exact rc_intI | with_reducible exact rc_intB | with_reducible exact rc_lenL | with_reducible exact rc_tupOf | exact rc_isq (by assumption) (by assumption) | exact rc_isq (by omega) (by omega))
local macro_rules | `(tactic| walk_at "et") => `(tactic| first
  | ((with_reducible apply et_test); walk_at "ev")
  | ((with_reducible apply et_B); walk_at "ev")
  | ((with_reducible apply et_and); (focus walk_at "et"); (intro hh_; (focus walk_at "et")))
  | ((with_reducible apply et_or); (focus walk_at "et"); (intro hh_; (focus walk_at "et")))
  | ((with_reducible apply et_not); walk_at "et"))
local macro_rules | `(tactic| walk_at "tg") => `(tactic| first | with_reducible exact tg_name | ((with_reducible apply tg_tup); (focus walk_at "tgs"); exact rfl) | ((with_reducible apply tg_unl); (focus walk_at "tgs"); exact rfl))
local macro_rules | `(tactic| walk_at "tgs") => `(tactic| first | with_reducible exact tg_nil | ((with_reducible apply tg_cons); (focus walk_at "tg"); (focus walk_at "tgs")))
local macro_rules | `(tactic| walk_at "pre") => `(tactic| first | assumption | walk_at "bd" | exact Bd.mono (by walk_at "bd") (by omega) | omega | decide)

local macro_rules | `(tactic| walk_at "call") => `(tactic| ((with_reducible apply i_worth); all_goals (walk_at "pre")))

local macro_rules | `(tactic| walk_at "call") => `(tactic| ((with_reducible apply i_act); all_goals (walk_at "pre")))

local macro_rules | `(tactic| walk_at "call") => `(tactic| ((with_reducible apply i_discriminant); all_goals (walk_at "pre")))

local macro_rules | `(tactic| walk_at "call") => `(tactic| ((with_reducible apply i_scaled); all_goals (walk_at "pre")))

local macro_rules | `(tactic| walk_at "call") => `(tactic| ((with_reducible apply i_divided); all_goals (walk_at "pre")))

local macro_rules | `(tactic| walk_at "call") => `(tactic| ((with_reducible apply i_multiply); all_goals (walk_at "pre")))

local macro_rules | `(tactic| walk_at "call") => `(tactic| ((with_reducible apply i_determinant); all_goals (walk_at "pre")))

local macro_rules | `(tactic| walk_at "call") => `(tactic| ((with_reducible apply i_inverse); all_goals (walk_at "pre")))

local macro_rules | `(tactic| walk_at "call") => `(tactic| ((with_reducible apply i_floor_root); all_goals (walk_at "pre")))

local macro_rules | `(tactic| walk_at "call") => `(tactic| ((with_reducible apply i_is_square); all_goals (walk_at "pre")))

local macro_rules | `(tactic| walk_at "call") => `(tactic| ((with_reducible apply i_kind); all_goals (walk_at "pre")))

local macro_rules | `(tactic| walk_at "call") => `(tactic| ((with_reducible apply i_is_reduced_definite)))


local macro_rules | `(tactic| walk_at "call") => `(tactic| ((with_reducible apply i_measure); all_goals (walk_at "pre")))

local macro_rules | `(tactic| walk_at "call") => `(tactic| ((with_reducible apply i_content); all_goals (walk_at "pre")))

local macro_rules | `(tactic| walk_at "call") => `(tactic| ((with_reducible apply i_is_reduced_indefinite); all_goals (walk_at "pre")))

local macro_rules | `(tactic| walk_at "call") => `(tactic| ((with_reducible apply i_step_of); all_goals (walk_at "pre")))

local macro_rules | `(tactic| walk_at "call") => `(tactic| ((with_reducible apply i_law_root); all_goals (walk_at "pre")))

local macro_rules | `(tactic| walk_at "call") => `(tactic| ((with_reducible apply i_law_square); all_goals (walk_at "pre")))

local macro_rules | `(tactic| walk_at "call") => `(tactic| ((with_reducible apply i_law_kind); all_goals (walk_at "pre")))

local macro_rules | `(tactic| walk_at "call") => `(tactic| ((with_reducible apply i_law_is_reduced); all_goals (walk_at "pre")))

local macro_rules | `(tactic| walk_at "call") => `(tactic| ((with_reducible apply i_law_neighbour); all_goals (walk_at "pre")))

local macro_rules | `(tactic| walk_at "call") => `(tactic| ((with_reducible apply i_law_worth); all_goals (walk_at "pre")))

local macro_rules | `(tactic| walk_at "call") => `(tactic| ((with_reducible apply i_law_act); all_goals (walk_at "pre")))

local macro_rules | `(tactic| walk_at "call") => `(tactic| ((with_reducible apply i_law_mul); all_goals (walk_at "pre")))

local macro_rules | `(tactic| walk_at "call") => `(tactic| ((with_reducible apply i_law_measure); all_goals (walk_at "pre")))

local macro_rules | `(tactic| walk_at "call") => `(tactic| ((with_reducible apply i_discF); assumption))
local macro_rules | `(tactic| walk_at "cond") => `(tactic| exact (⟨by decide, by decide, by decide⟩ : CPow _ _))

/-- the counter stands between n0 and n0 + b -/
def Stt (n0 b : Int) (o : OS) : Prop := ∃ cs n, o = some cs ∧ Cnt cs n ∧ n0 ≤ n ∧ n ≤ n0 + b
theorem Stt.start {cs : List PyData} {n : Int} (h : Cnt cs n) : Stt n 0 (some cs) := ⟨cs, n, rfl, h, Int.le_refl _, by omega⟩
theorem Stt.up {n0 b c : Int} {o : OS} (h : Stt n0 b o) (k : b ≤ c) : Stt n0 c o := by
  obtain ⟨cs, n, e, a, l, m⟩ := h
  exact ⟨cs, n, e, a, l, by omega⟩
theorem Stt.fin {n0 b : Int} {o : OS} (h : Stt n0 b o) : ∃ es, o = some es ∧ ∃ n', Cnt es n' ∧ n0 ≤ n' ∧ n' ≤ n0 + b := by
  obtain ⟨cs, n, e, a, l, m⟩ := h
  exact ⟨cs, e, n, a, l, m⟩
section
variable {K : Fg} {env : List Sl} {R : PyData → OS → Prop}
theorem er_next {i : Nat} {n0 b m : Int} {o : OS} {tr : TA} (hi : env[i]? = some .own) (hm : EvA K tr env o [.int m]) (h0 : 0 < m) (hs : Stt n0 b o) (g0 : 0 ≤ n0) (g1 : n0 + b ≤ 100000) (k : ∀ v o', Stt n0 (b + 1) o' → 0 ≤ v → v < m → R (.int v) o') :
    EvR K (tCall (spS K Pre_law_next Post_law_next) [] E0 (tCons (tVar i) tr)) env o R := by
  obtain ⟨cs, n, rfl, hc, l1, l2⟩ := hs
  refine er_callS hi (hm.toR ⟨cs, rfl, ⟨m, n, rfl, h0, hc, by omega, by omega⟩, fun d es hp => ?_⟩)
  obtain ⟨n', h1, h2, h3, h4⟩ := hp n hc
  obtain ⟨v, rfl, v0, v1⟩ := h4 m rfl
  exact k v _ ⟨es, n', rfl, h1, by omega, by omega⟩ v0 v1
end
/-- sizes by plain numbers -/
structure Sz (A : Nat) (f : Mth.F3) : Prop where
  a : f.a.natAbs ≤ A
  b : f.b.natAbs ≤ A
  c : f.c.natAbs ≤ A
structure Mx (A : Nat) (m : Mth.M4) : Prop where
  p : m.p.natAbs ≤ A
  q : m.q.natAbs ≤ A
  r : m.r.natAbs ≤ A
  s : m.s.natAbs ≤ A
theorem mul_le {x y : Int} {k j : Nat} (hx : x.natAbs ≤ k) (hy : y.natAbs ≤ j) : (x * y).natAbs ≤ k * j := by
  rw [Int.natAbs_mul]
  exact Nat.mul_le_mul hx hy
theorem add_le {x y : Int} {k j : Nat} (hx : x.natAbs ≤ k) (hy : y.natAbs ≤ j) : (x + y).natAbs ≤ k + j := Nat.le_trans (Int.natAbs_add_le x y) (Nat.add_le_add hx hy)
theorem nb3 {x y u v : Int} {k : Nat} (hx : x.natAbs ≤ k) (hy : y.natAbs ≤ k) (h : u.natAbs + v.natAbs ≤ 3) : (x * u + y * v).natAbs ≤ k * 3 := by
  have h1 := mul_le hx (Nat.le_refl u.natAbs)
  have h2 := mul_le hy (Nat.le_refl v.natAbs)
  have h3 := Int.natAbs_add_le (x * u) (y * v)
  have h4 := Nat.mul_le_mul_left k h
  rw [Nat.mul_add] at h4
  omega
theorem Mx.mul {k : Nat} {m n : Mth.M4} (h : Mx k m) (h1 : n.p.natAbs + n.r.natAbs ≤ 3) (h2 : n.q.natAbs + n.s.natAbs ≤ 3) : Mx (k * 3) (Mth.mulM m n) := ⟨nb3 h.p h.q h1, nb3 h.p h.q h2, nb3 h.r h.s h1, nb3 h.r h.s h2⟩
theorem Mx.bd {k j : Nat} {m : Mth.M4} (h : Mx k m) (hk : k < 2 ^ j) : BdM j m := ⟨Nat.lt_of_le_of_lt h.p hk, Nat.lt_of_le_of_lt h.q hk, Nat.lt_of_le_of_lt h.r hk, Nat.lt_of_le_of_lt h.s hk⟩
theorem Sz.bd {k : Nat} {f : Mth.F3} (h : Sz k f) (hk : k < 2 ^ 40) : BdF 40 f := ⟨Nat.lt_of_le_of_lt h.a hk, Nat.lt_of_le_of_lt h.b hk, Nat.lt_of_le_of_lt h.c hk⟩
theorem Sz.mono {k j : Nat} {f : Mth.F3} (h : Sz k f) (hk : k ≤ j) : Sz j f := ⟨Nat.le_trans h.a hk, Nat.le_trans h.b hk, Nat.le_trans h.c hk⟩
theorem wv_le {f : Mth.F3} {m : Mth.M4} {A k : Nat} (h : Sz A f) {x y : Int} (hx : x.natAbs ≤ k) (hy : y.natAbs ≤ k) : (f.a * x * x + f.b * x * y + f.c * y * y).natAbs ≤ 6 * (A * k * k) := by
  have h1 := mul_le (mul_le h.a hx) hx
  have h2 := mul_le (mul_le h.b hx) hy
  have h3 := mul_le (mul_le h.c hy) hy
  have h4 := add_le (add_le h1 h2) h3
  omega
theorem am_le {f : Mth.F3} {m : Mth.M4} {A k : Nat} (h : Sz A f) (hm : Mx k m) : (2 * f.a * m.p * m.q + f.b * (m.p * m.s + m.q * m.r) + 2 * f.c * m.r * m.s).natAbs ≤ 6 * (A * k * k) := by
  have e2 : (2 : Int).natAbs ≤ 2 := by decide
  have h1 := mul_le (mul_le (mul_le e2 h.a) hm.p) hm.q
  have h2 := mul_le h.b (add_le (mul_le hm.p hm.s) (mul_le hm.q hm.r))
  have h3 := mul_le (mul_le (mul_le e2 h.c) hm.r) hm.s
  have h4 := add_le (add_le h1 h2) h3
  have h5 : A * (k * k + k * k) = 2 * (A * k * k) := by
    rw [Nat.mul_add, ← Nat.mul_assoc]
    omega
  have h6 : 2 * A * k * k = 2 * (A * k * k) := by
    rw [Nat.mul_assoc, Nat.mul_assoc, Nat.mul_assoc]
  omega

section
variable {P : Program} {w : World} {K : Fg} {mg : Str → Option Value} {base : Heap}

def Pre_law_change (ds cs : List PyData) : Prop := ∃ (k : Int) (n : Int), ds = [.int k] ∧ 0 ≤ k ∧ k ≤ 4 ∧ Cnt cs n ∧ 0 ≤ n ∧ n ≤ 90000
def Post_law_change (ds cs : List PyData) (d : PyData) (es : List PyData) : Prop := ∀ n, Cnt cs n → ∃ n', Cnt es n' ∧ n ≤ n' ∧ n' ≤ n + 10 ∧ (∀ (k : Int), ds = [.int k] → ∃ m, d = dM m ∧ Mth.detM m = 1 ∧ Mx 81 m)

def LchI (k n0 : Int) (i : Nat) (e : List Sl) (o : OS) : Prop := ∃ (m : Mth.M4) (x y : Sl), e = [.own, .d (.int k), .d (dM m), x, y] ∧ Stt n0 (1 + 2 * i) o ∧ Mth.detM m = 1 ∧ Mx (3 ^ i) m
theorem sc_law_change : FnScope ["_law_state_here", "_law_many", "_law_m", "_law_k", "_law_t"] ["_law_state_here", "_law_many"] (defScope (top 54)) := ⟨rfl, rfl, rfl, by decide +kernel, rfl, by decide +kernel, by decide +kernel⟩
theorem ok_law_change (T : Md K mg) (D : DefAt K mg "_law_change" "_law_change" (top 54) ["_law_state_here", "_law_many"]) (G_law_next : Ok P w K mg base 1 "_law_next" ["_law_state_here", "_law_many"] (spS K Pre_law_next Post_law_next)) (G_law_mul : Ok P w K mg base 1 "_law_mul" ["_law_m", "_law_n"] (spD K R_law_mul)) : Ok P w K mg base 2 "_law_change" ["_law_state_here", "_law_many"] (spS K Pre_law_change Post_law_change) := by
  refine ok_own D sc_law_change (fun ds cs h => by obtain ⟨k, n, rfl, _⟩ := h; rfl) fun f cdv A outer s H E hr => ?_
  refine ⟨_, (pss_cons (ps_set (i := 2) sc_law_change.nd rfl (Or.inl rfl) (pe_tup (pa_cons pe_int (pa_cons pe_int (pa_cons pe_int (pa_cons pe_int pa_nil))))))
      (pss_cons (ps_for PassesOwn.never rfl (pi_range1 (by rfl) T.range (pa_cons (pe_callO G_law_next (hr.mono (by decide)) (by rfl) (pa_cons (pv 0) (pa_cons (pe_op op_add (pv 1) pe_int) pa_nil))) pa_nil)) (pg_name (i := 3) sc_law_change.nd rfl (Or.inl rfl)) (pss_cons (ps_set (i := 4) sc_law_change.nd rfl (Or.inl rfl) (pe_op op_sub (pe_callO G_law_next (hr.mono (by decide)) (by rfl) (pa_cons (pv 0) (pa_cons pe_int pa_nil))) pe_int))
      (pss_one (ps_set (i := 2) sc_law_change.nd rfl (Or.inl rfl) (pe_callO G_law_mul (hr.mono (by decide)) (by rfl) (pa_cons (pv 2) (pa_cons (pe_ix (ix_listK (K := K) (by exact rfl)) (pe_lst (pa_cons (pe_tup (pa_cons pe_int (pa_cons (pv 4) (pa_cons pe_int (pa_cons pe_int pa_nil))))) (pa_cons (pe_tup (pa_cons pe_int (pa_cons pe_int (pa_cons (pv 4) (pa_cons pe_int pa_nil))))) (pa_cons (pe_tup (pa_cons pe_int (pa_cons (pe_un un_neg pe_int) (pa_cons pe_int (pa_cons pe_int pa_nil))))) pa_nil)))) (pe_callO G_law_next (hr.mono (by decide)) (by rfl) (pa_cons (pv 0) (pa_cons pe_int pa_nil))) (fun _ _ => rfl)) pa_nil)))))))
      (pss_one (ps_ret (pv 2))))), ?_⟩
  rintro l _ cs ⟨k, n, rfl, h0, h1, hc, n0, n1⟩
  show SD K (some l) _ [.own, .d (.int k), .no, .no, .no] (some cs) _ _ _ _
  refine q_asg (d := dM ⟨1, 0, 0, 1⟩) (by walk_at "ev") ?_
  refine s_seq (M := fun e o => ∃ i : Nat, i ≤ 4 ∧ LchI k n i e o) (s_forR (LchI k n) ?_) ?_
  · refine ear_cons (er_next (m := k + 1) rfl (by walk_at "ea") (by omega) (Stt.start hc) n0 (by omega) fun v o' st v0 v1 => ear_nil ?_)
    refine ⟨v, rfl, v0, by omega, ⟨⟨1, 0, 0, 1⟩, _, _, rfl, st, rfl, ⟨by decide, by decide, by decide, by decide⟩⟩, ?_, fun e o h => ⟨v.toNat, by omega, h⟩⟩
    rintro i _ o hi ⟨m, x, y, rfl, st, dm, bm⟩
    refine q_asgR (er_op (er_next (m := 5) rfl (by walk_at "ea") (by decide) st n0 (by omega) fun t o2 st2 t0 t1 => EvD.toR ev_int ⟨_, rv_I0, _, tg_name, ?_⟩))
    refine s_asgR (er_call (ear_cons (EvD.toR (ev_var rfl) (ear_cons (er_op (EvD.toR (d := .list [dM ⟨1, t - 2, 0, 1⟩, dM ⟨1, 0, t - 2, 1⟩, dM ⟨0, -1, 1, 0⟩]) (by walk_at "ev") ?_))))))
    refine er_next (m := 3) rfl (by walk_at "ea") (by decide) st2 n0 (by omega) fun w o3 st3 w0 w1 => ?_
    obtain ⟨N, hN, dN, c1, c2⟩ : ∃ N, atI [dM ⟨1, t - 2, 0, 1⟩, dM ⟨1, 0, t - 2, 1⟩, dM ⟨0, -1, 1, 0⟩] w = some (dM N) ∧ Mth.detM N = 1 ∧ N.p.natAbs + N.r.natAbs ≤ 3 ∧ N.q.natAbs + N.s.natAbs ≤ 3 := by
      have hw : w = 0 ∨ w = 1 ∨ w = 2 := by omega
      rcases hw with rfl | rfl | rfl
      · exact ⟨⟨1, t - 2, 0, 1⟩, rfl, by simp [Mth.detM], Nat.le_of_ble_eq_true rfl, by show (t - 2).natAbs + 1 ≤ 3; omega⟩
      · exact ⟨⟨1, 0, t - 2, 1⟩, rfl, by simp [Mth.detM], by show 1 + (t - 2).natAbs ≤ 3; omega, Nat.le_of_ble_eq_true rfl⟩
      · exact ⟨⟨0, -1, 1, 0⟩, rfl, by decide, by decide, by decide⟩
    refine ⟨_, rv_ixL hN, ear_nil ?_⟩
    have b81 : 3 ^ i ≤ 81 := Nat.pow_le_pow_right (n := 3) (by decide) (show i ≤ 4 by omega)
    have bN : BdM 30 N := ⟨Bd.of (by omega), Bd.of (by omega), Bd.of (by omega), Bd.of (by omega)⟩
    refine ⟨dM (Mth.mulM m N), i_law_mul (bm.bd (j := 30) (by omega)) bN (by omega), _, tg_name, Mth.mulM m N, _, _, rfl, st3.up (by omega), ?_, ?_⟩
    · rw [Mth.det_mul, dm, dN]
      rfl
    · exact bm.mul c1 c2
  · rintro _ _ ⟨i, hi, m, x, y, rfl, st, dm, bm⟩
    have b81 : 3 ^ i ≤ 81 := Nat.pow_le_pow_right (n := 3) (by decide) hi
    obtain ⟨es, rfl, n', q1, q2, q3⟩ := st.fin
    refine s_ret (d := dM m) (by walk_at "ev") ⟨es, rfl, fun n1' hn1 => ?_⟩
    have en := cnt_inj hn1 hc
    subst en
    exact ⟨n', q1, q2, by omega, fun _ _ => ⟨m, rfl, dm, ⟨Nat.le_trans bm.p b81, Nat.le_trans bm.q b81, Nat.le_trans bm.r b81, Nat.le_trans bm.s b81⟩⟩⟩


end
end Kx

-- K18
set_option maxHeartbeats 2000000
namespace Kx
open PySem PySem.Spec PyProof.Rows L2
local macro_rules | `(tactic| walk_at "bd") => `(tactic| first | assumption | exact Bd.lit (by decide) | ((with_reducible apply Bd.mul) <;> walk_at "bd") | ((with_reducible apply Bd.add) <;> walk_at "bd") | ((with_reducible apply Bd.sub) <;> walk_at "bd") | ((with_reducible apply Bd.neg); walk_at "bd"))
local macro_rules | `(tactic| walk_at "mul") => `(tactic| first | assumption | exact mulok_l (Bd.mono (by walk_at "bd") (by omega)) | exact mulok_r (Bd.mono (by walk_at "bd") (by omega)) | ((with_reducible apply mulok); (focus walk_at "bd"); (focus walk_at "bd"); omega))
local macro_rules | `(tactic| walk_at "cond") => `(tactic| first | assumption | walk_at "mul" | exact cfd (by first | assumption | omega) (by walk_at "bd") (by omega) | omega | decide)
local macro_rules | `(tactic| walk_at "rv") => `(tactic| first | with_reducible exact rv_I0 | with_reducible exact rv_B0 | with_reducible exact rv_eqI | with_reducible exact rv_neI | with_reducible exact rv_eqF | with_reducible exact rv_neF | with_reducible exact rv_eqS | ((with_reducible apply rv_I); walk_at "cond") | ((with_reducible apply rv_ixT); exact rfl) | ((with_reducible apply rv_ixL); exact rfl) | with_reducible exact rv_isN | with_reducible exact rv_notN | exact rv_cat (Nat.le_of_ble_eq_true rfl))
local macro_rules | `(tactic| walk_at "ev") => `(tactic| first
  | ((with_reducible apply ev_var); exact rfl) | with_reducible exact ev_int | with_reducible exact ev_bl | with_reducible exact ev_str | with_reducible exact ev_non | exact ev_quad (by assumption)
  | ((with_reducible apply ev_op); (focus walk_at "ev"); (focus walk_at "ev"); (focus walk_at "rv"))
  | ((with_reducible apply ev_un); (focus walk_at "ev"); with_reducible exact ru_I)
  | ((with_reducible apply ev_tup); (focus walk_at "ea"); exact Nat.le_of_ble_eq_true rfl)
  | ((with_reducible apply ev_lst); (focus walk_at "ea"); exact Nat.le_of_ble_eq_true rfl)
  | ((with_reducible apply ev_call); (focus walk_at "ea"); (focus walk_at "call"))
  | ((with_reducible apply ev_cb); (focus walk_at "ea"); (focus walk_at "rc"))
  | ((with_reducible apply ev_andV); (focus walk_at "ev"); (intro hh_; (focus walk_at "ev")))
  | ((with_reducible apply ev_orV); (focus walk_at "ev"); (intro hh_; (focus walk_at "ev")))
  | ((with_reducible apply ev_chain); (focus walk_at "ev"); (focus walk_at "ev"); (focus walk_at "rv"); (intro hh_; (focus walk_at "ev")); (intro hh_; (focus walk_at "rv")))
  | ((with_reducible apply ev_notV); walk_at "ev")
  | ((with_reducible apply ev_cut2); walk_at "ev"))
local macro_rules | `(tactic| walk_at "ea") => `(tactic| first | with_reducible exact ea_nil | ((with_reducible apply ea_cons); (focus walk_at "ev"); (focus walk_at "ea")))
local macro_rules | `(tactic| walk_at "rc") => `(tactic| first | with_reducible exact rc_abs | with_reducible exact rc_intI | with_reducible exact rc_intB | with_reducible exact rc_lenL | with_reducible exact rc_tupOf | exact rc_isq (by assumption) (by assumption) | exact rc_isq (by omega) (by omega))
local macro_rules | `(tactic| walk_at "et") => `(tactic| first
  | ((with_reducible apply et_test); walk_at "ev")
  | ((with_reducible apply et_B); walk_at "ev")
  | ((with_reducible apply et_and); (focus walk_at "et"); (intro hh_; (focus walk_at "et")))
  | ((with_reducible apply et_or); (focus walk_at "et"); (intro hh_; (focus walk_at "et")))
  | ((with_reducible apply et_not); walk_at "et"))
local macro_rules | `(tactic| walk_at "tg") => `(tactic| first | with_reducible exact tg_name | ((with_reducible apply tg_tup); (focus walk_at "tgs"); exact rfl) | ((with_reducible apply tg_unl); (focus walk_at "tgs"); exact rfl))
local macro_rules | `(tactic| walk_at "tgs") => `(tactic| first | with_reducible exact tg_nil | ((with_reducible apply tg_cons); (focus walk_at "tg"); (focus walk_at "tgs")))
local macro_rules | `(tactic| walk_at "pre") => `(tactic| first | assumption | walk_at "bd" | exact Bd.mono (by walk_at "bd") (by omega) | omega | decide)

local macro_rules | `(tactic| walk_at "call") => `(tactic| ((with_reducible apply i_worth); all_goals (walk_at "pre")))

local macro_rules | `(tactic| walk_at "call") => `(tactic| ((with_reducible apply i_act); all_goals (walk_at "pre")))

local macro_rules | `(tactic| walk_at "call") => `(tactic| ((with_reducible apply i_discriminant); all_goals (walk_at "pre")))

local macro_rules | `(tactic| walk_at "call") => `(tactic| ((with_reducible apply i_scaled); all_goals (walk_at "pre")))

local macro_rules | `(tactic| walk_at "call") => `(tactic| ((with_reducible apply i_divided); all_goals (walk_at "pre")))

local macro_rules | `(tactic| walk_at "call") => `(tactic| ((with_reducible apply i_multiply); all_goals (walk_at "pre")))

local macro_rules | `(tactic| walk_at "call") => `(tactic| ((with_reducible apply i_determinant); all_goals (walk_at "pre")))

local macro_rules | `(tactic| walk_at "call") => `(tactic| ((with_reducible apply i_inverse); all_goals (walk_at "pre")))

local macro_rules | `(tactic| walk_at "call") => `(tactic| ((with_reducible apply i_floor_root); all_goals (walk_at "pre")))

local macro_rules | `(tactic| walk_at "call") => `(tactic| ((with_reducible apply i_is_square); all_goals (walk_at "pre")))

local macro_rules | `(tactic| walk_at "call") => `(tactic| ((with_reducible apply i_kind); all_goals (walk_at "pre")))

local macro_rules | `(tactic| walk_at "call") => `(tactic| ((with_reducible apply i_is_reduced_definite)))


local macro_rules | `(tactic| walk_at "call") => `(tactic| ((with_reducible apply i_measure); all_goals (walk_at "pre")))

local macro_rules | `(tactic| walk_at "call") => `(tactic| ((with_reducible apply i_content); all_goals (walk_at "pre")))

local macro_rules | `(tactic| walk_at "call") => `(tactic| ((with_reducible apply i_is_reduced_indefinite); all_goals (walk_at "pre")))

local macro_rules | `(tactic| walk_at "call") => `(tactic| ((with_reducible apply i_step_of); all_goals (walk_at "pre")))

local macro_rules | `(tactic| walk_at "call") => `(tactic| ((with_reducible apply i_law_root); all_goals (walk_at "pre")))

local macro_rules | `(tactic| walk_at "call") => `(tactic| ((with_reducible apply i_law_square); all_goals (walk_at "pre")))

local macro_rules | `(tactic| walk_at "call") => `(tactic| ((with_reducible apply i_law_kind); all_goals (walk_at "pre")))

local macro_rules | `(tactic| walk_at "call") => `(tactic| ((with_reducible apply i_law_is_reduced); all_goals (walk_at "pre")))

local macro_rules | `(tactic| walk_at "call") => `(tactic| ((with_reducible apply i_law_neighbour); all_goals (walk_at "pre")))

local macro_rules | `(tactic| walk_at "call") => `(tactic| ((with_reducible apply i_law_worth); all_goals (walk_at "pre")))

local macro_rules | `(tactic| walk_at "call") => `(tactic| ((with_reducible apply i_law_act); all_goals (walk_at "pre")))

local macro_rules | `(tactic| walk_at "call") => `(tactic| ((with_reducible apply i_law_mul); all_goals (walk_at "pre")))

local macro_rules | `(tactic| walk_at "call") => `(tactic| ((with_reducible apply i_law_measure); all_goals (walk_at "pre")))

local macro_rules | `(tactic| walk_at "call") => `(tactic| ((with_reducible apply i_discF); assumption))
local macro_rules | `(tactic| walk_at "cond") => `(tactic| exact (⟨by decide, by decide, by decide⟩ : CPow _ _))

/-- a drawn form: small, its discriminant small, not the form 0 -/
structure Drawn (g : Mth.F3) : Prop where
  sz : Sz 54 g
  lo : -1300 ≤ Mth.dscF g
  hi : Mth.dscF g ≤ 1300
  nz : g ≠ ⟨0, 0, 0⟩
theorem split_dsc (g p q r s : Int) : Mth.dscF ⟨g * p * r, g * (p * s + q * r), g * q * s⟩ = (g * (p * s - q * r)) * (g * (p * s - q * r)) := by
  simp only [Mth.dscF]
  grind
theorem flat_dsc (g p q : Int) : Mth.dscF ⟨g * p * p, 2 * g * p * q, g * q * q⟩ = 0 := by
  simp only [Mth.dscF]
  grind
theorem split_drawn {g p q r s : Int} (hg : g = 1 ∨ g = 2) (hne : p * s ≠ q * r) (h : (p.natAbs ≤ 3 ∧ q.natAbs ≤ 3 ∧ r.natAbs ≤ 3 ∧ s.natAbs ≤ 3) ∨ (p = 1 ∧ 0 ≤ q ∧ q ≤ 2 ∧ r = 1 ∧ 3 ≤ s ∧ s ≤ 5)) : Drawn ⟨g * p * r, g * (p * s + q * r), g * q * s⟩ := by
  have g2 : g.natAbs ≤ 2 := by omega
  have key : (p * r).natAbs ≤ 9 ∧ (p * s).natAbs ≤ 9 ∧ (q * r).natAbs ≤ 9 ∧ (q * s).natAbs ≤ 10 := by
    rcases h with ⟨h1, h2, h3, h4⟩ | ⟨rfl, h2, h3, rfl, h4, h5⟩
    · exact ⟨mul_le h1 h3, mul_le h1 h4, mul_le h2 h3, Nat.le_trans (mul_le h2 h4) (by decide)⟩
    · have := mul_le (x := q) (y := s) (k := 2) (j := 5) (by omega) (by omega)
      exact ⟨by decide, by omega, by omega, by omega⟩
  obtain ⟨k1, k2, k3, k4⟩ := key
  have e := split_dsc g p q r s
  have hd : (p * s - q * r).natAbs ≤ 18 := by omega
  have h36 : (g * (p * s - q * r)).natAbs ≤ 36 := mul_le g2 hd
  have hsq := mul_le h36 h36
  have hnn := Int.natAbs_mul_self (a := g * (p * s - q * r))
  refine ⟨⟨?_, ?_, ?_⟩, ?_, ?_, fun z => ?_⟩
  · show (g * p * r).natAbs ≤ 54
    rw [Int.mul_assoc]
    exact Nat.le_trans (mul_le g2 k1) (by decide)
  · show (g * (p * s + q * r)).natAbs ≤ 54
    exact Nat.le_trans (mul_le g2 (add_le k2 k3)) (by decide)
  · show (g * q * s).natAbs ≤ 54
    rw [Int.mul_assoc]
    exact Nat.le_trans (mul_le g2 k4) (by decide)
  · rw [e]
    omega
  · rw [e]
    omega
  · rw [z] at e
    have e0 : Mth.dscF ⟨0, 0, 0⟩ = 0 := rfl
    rw [e0] at e
    rcases Int.mul_eq_zero.mp e.symm with y | y <;> rcases Int.mul_eq_zero.mp y with y | y <;> omega
theorem flat_drawn {g p q : Int} (hg : g.natAbs ≤ 3) (g0 : g ≠ 0) (hp : p.natAbs ≤ 3) (hq : q.natAbs ≤ 3) (hne : ¬ (p = 0 ∧ q = 0)) : Drawn ⟨g * p * p, 2 * g * p * q, g * q * q⟩ := by
  have e := flat_dsc g p q
  refine ⟨⟨?_, ?_, ?_⟩, ?_, ?_, fun z => ?_⟩
  · exact Nat.le_trans (mul_le (mul_le hg hp) hp) (by decide)
  · exact Nat.le_trans (mul_le (mul_le (mul_le (k := 2) (by decide) hg) hp) hq) (by decide)
  · exact Nat.le_trans (mul_le (mul_le hg hq) hq) (by decide)
  · rw [e]
    decide
  · rw [e]
    decide
  · injection z with z1 _ z3
    have y1 : p = 0 := by
      rcases Int.mul_eq_zero.mp z1 with y | y
      · rcases Int.mul_eq_zero.mp y with y | y
        · exact absurd y g0
        · exact y
      · exact y
    have y2 : q = 0 := by
      rcases Int.mul_eq_zero.mp z3 with y | y
      · rcases Int.mul_eq_zero.mp y with y | y
        · exact absurd y g0
        · exact y
      · exact y
    exact hne ⟨y1, y2⟩
theorem plain_drawn {a b c : Int} (ha : a.natAbs ≤ 5) (hb : b.natAbs ≤ 6) (hc : c.natAbs ≤ 5) (a0 : a ≠ 0) : Drawn ⟨a, b, c⟩ := by
  have h1 := mul_le (mul_le (x := 4) (k := 4) (by decide) ha) hc
  have h2 := mul_le hb hb
  have hd : Mth.dscF ⟨a, b, c⟩ = b * b - 4 * a * c := rfl
  exact ⟨⟨by show a.natAbs ≤ 54; omega, by show b.natAbs ≤ 54; omega, by show c.natAbs ≤ 54; omega⟩, by omega, by omega, fun z => a0 (by injection z)⟩

section
variable {P : Program} {w : World} {K : Fg} {mg : Str → Option Value} {base : Heap}

def Pre_law_split (ds cs : List PyData) : Prop := ∃  (n : Int), ds = [] ∧ Cnt cs n ∧ 0 ≤ n ∧ n ≤ 90000
def Post_law_split (ds cs : List PyData) (d : PyData) (es : List PyData) : Prop := ∀ n, Cnt cs n → ∃ n', Cnt es n' ∧ n ≤ n' ∧ n' ≤ n + 12 ∧ (∃ g, d = dF g ∧ Drawn g)

theorem sc_law_split : FnScope ["_law_state_here", "_law_p", "_law_q", "_law_r", "_law_s", "_law_k", "_law_g"] ["_law_state_here"] (defScope (top 57)) := ⟨rfl, rfl, rfl, by decide +kernel, rfl, by decide +kernel, by decide +kernel⟩
theorem ok_law_split (T : Md K mg) (D : DefAt K mg "_law_split" "_law_split" (top 57) ["_law_state_here"]) (G_law_next : Ok P w K mg base 1 "_law_next" ["_law_state_here", "_law_many"] (spS K Pre_law_next Post_law_next)) : Ok P w K mg base 2 "_law_split" ["_law_state_here"] (spS K Pre_law_split Post_law_split) := by
  refine ok_own D sc_law_split (fun ds cs h => by obtain ⟨n, rfl, _⟩ := h; rfl) fun f cdv A outer s H E hr => ?_
  refine ⟨_, (pss_cons (ps_asg (pe_lc (own := [("_law_k", 5)]) (g := gName 5) (tt := tYes) rfl sc_law_split.nd (pi_range1 (by rfl) T.range (pa_cons pe_int pa_nil)) (blkOk_by (N := ["_law_state_here", "_law_p", "_law_q", "_law_r", "_law_s", "_law_k", "_law_g"]) (sc := defScope (top 57)) (by decide +kernel)) (fun _ _ _ _ _ => pg_name (i := 5) sc_law_split.nd rfl (Or.inl rfl)) (fun _ _ _ _ _ => pts_nil) (fun _ _ _ _ _ => (pe_op op_sub (pe_callO G_law_next (hr.mono (by decide)) (by rfl) (pa_cons (pv 0) (pa_cons pe_int pa_nil))) pe_int))) (pg_unlK (K := K) 4 (by exact rfl) rfl (pgs_cons (pg_name (i := 1) sc_law_split.nd rfl (Or.inl rfl)) (pgs_cons (pg_name (i := 2) sc_law_split.nd rfl (Or.inl rfl)) (pgs_cons (pg_name (i := 3) sc_law_split.nd rfl (Or.inl rfl)) (pgs_cons (pg_name (i := 4) sc_law_split.nd rfl (Or.inl rfl)) pgs_nil)))) (by rfl) (by rfl)))
      (pss_cons (ps_if (pt_cmpR (op_eqDK (K := K) (by exact rfl) hr.units) (pe_op op_mulX (pv 1) (pv 4)) (pe_op op_mulX (pv 2) (pv 3)) (nomark _)) (pss_one (ps_asg (pe_tup (pa_cons pe_int (pa_cons (pe_callO G_law_next (hr.mono (by decide)) (by rfl) (pa_cons (pv 0) (pa_cons pe_int pa_nil))) (pa_cons pe_int (pa_cons (pe_op op_add pe_int (pe_callO G_law_next (hr.mono (by decide)) (by rfl) (pa_cons (pv 0) (pa_cons pe_int pa_nil)))) pa_nil))))) (pg_tupK (K := K) 4 (by exact rfl) rfl (pgs_cons (pg_name (i := 1) sc_law_split.nd rfl (Or.inl rfl)) (pgs_cons (pg_name (i := 2) sc_law_split.nd rfl (Or.inl rfl)) (pgs_cons (pg_name (i := 3) sc_law_split.nd rfl (Or.inl rfl)) (pgs_cons (pg_name (i := 4) sc_law_split.nd rfl (Or.inl rfl)) pgs_nil)))) (by rfl) (by rfl)))) pss_nil)
      (pss_cons (ps_set (i := 6) sc_law_split.nd rfl (Or.inl rfl) (pe_op op_add pe_int (pe_op op_fdX (pe_callO G_law_next (hr.mono (by decide)) (by rfl) (pa_cons (pv 0) (pa_cons pe_int pa_nil))) pe_int)))
      (pss_one (ps_ret (pe_tup (pa_cons (pe_op op_mulX (pe_op op_mulX (pv 6) (pv 1)) (pv 3)) (pa_cons (pe_op op_mulX (pv 6) (pe_op op_add (pe_op op_mulX (pv 1) (pv 4)) (pe_op op_mulX (pv 2) (pv 3)))) (pa_cons (pe_op op_mulX (pe_op op_mulX (pv 6) (pv 2)) (pv 4)) pa_nil))))))))), ?_⟩
  rintro l _ cs ⟨n, rfl, hc, n0, n1⟩
  show SD K (some l) _ [.own, .no, .no, .no, .no, .no, .no] (some cs) _ _ _ _
  refine s_seq (M := fun e o => ∃ (p q r s : Int) (x y : Sl), e = [.own, .d (.int p), .d (.int q), .d (.int r), .d (.int s), x, y] ∧ Stt n 4 o ∧ p.natAbs ≤ 3 ∧ q.natAbs ≤ 3 ∧ r.natAbs ≤ 3 ∧ s.natAbs ≤ 3) (s_asgR (er_lcR (n := 4) (fun i ds o => ∃ vs : List Int, ds = vs.map .int ∧ vs.length = i ∧ (∀ v, v ∈ vs → v.natAbs ≤ 3) ∧ Stt n i o) (by walk_at "ea") (by decide) (by decide) ⟨[], rfl, rfl, fun v hv => (by simp at hv), Stt.start hc⟩ ?_ ?_)) ?_
  · rintro i _ o hi ⟨vs, rfl, hl, hv, st⟩
    refine er_op (er_next (m := 7) rfl (by walk_at "ea") (by decide) st n0 (by omega) fun v o2 st2 v0 v1 => EvD.toR ev_int ⟨_, rv_I0, vs ++ [v - 3], by rw [List.map_append]; rfl, by simp [hl], ?_, st2.up (by omega)⟩)
    intro w hw
    rcases List.mem_append.mp hw with k | k
    · exact hv w k
    · rw [List.mem_singleton.mp k]
      omega
  · rintro _ o ⟨vs, rfl, hl, hv, st⟩
    have hl4 : vs.length = 4 := hl
    match vs, hl4, hv with
    | [p, q, r, s], _, hv =>
      exact ⟨_, tg_unl (tg_cons tg_name (tg_cons tg_name (tg_cons tg_name (tg_cons tg_name tg_nil)))) rfl, p, q, r, s, _, _, rfl, st, hv p (by simp), hv q (by simp), hv r (by simp), hv s (by simp)⟩
  rintro _ o ⟨p, q, r, s, x, y, rfl, st, hp, hq, hr', hs⟩
  have mp : ∀ {a b : Int} {k j : Nat}, a.natAbs ≤ k → b.natAbs ≤ j → k ≤ 100 → IntMulOk a b := fun h _ hk => mulok_l (Bd.of (by omega))
  refine s_seq (M := fun e o => ∃ (p q r s : Int) (x y : Sl), e = [.own, .d (.int p), .d (.int q), .d (.int r), .d (.int s), x, y] ∧ Stt n 6 o ∧ p * s ≠ q * r ∧ ((p.natAbs ≤ 3 ∧ q.natAbs ≤ 3 ∧ r.natAbs ≤ 3 ∧ s.natAbs ≤ 3) ∨ (p = 1 ∧ 0 ≤ q ∧ q ≤ 2 ∧ r = 1 ∧ 3 ≤ s ∧ s ≤ 5))) (s_if (b := decide (p * s = q * r)) (et_test (ev_op (ev_op (ev_var rfl) (ev_var rfl) (rv_I (mp hp hs (by decide)))) (ev_op (ev_var rfl) (ev_var rfl) (rv_I (mp hq hr' (by decide)))) rv_eqI)) (fun hh => ?_) fun hh => ?_) ?_
  · refine s_asgR (er_tup (ear_cons (EvD.toR ev_int (ear_cons ?_))))
    refine er_next (m := 3) rfl (by walk_at "ea") (by decide) st n0 (by omega) fun v o2 st2 v0 v1 => ?_
    refine ear_cons (EvD.toR ev_int (ear_cons (er_op (EvD.toR ev_int ?_))))
    refine er_next (m := 3) rfl (by walk_at "ea") (by decide) st2 n0 (by omega) fun w o3 st3 w0 w1 => ?_
    refine ⟨_, rv_I0, ear_nil ⟨Nat.le_of_ble_eq_true rfl, _, tg_tup (tg_cons tg_name (tg_cons tg_name (tg_cons tg_name (tg_cons tg_name tg_nil)))) rfl, 1, v, 1, 3 + w, _, _, rfl, st3, by omega, .inr ⟨rfl, v0, by omega, rfl, by omega, by omega⟩⟩⟩
  · exact s_next ⟨p, q, r, s, _, _, rfl, st.up (by decide), of_decide_eq_false hh, .inl ⟨hp, hq, hr', hs⟩⟩
  rintro _ o ⟨p, q, r, s, x, y, rfl, st, hne, hpq⟩
  have b4 : p.natAbs ≤ 5 ∧ q.natAbs ≤ 5 ∧ r.natAbs ≤ 5 ∧ s.natAbs ≤ 5 := by omega
  obtain ⟨b1, b2, b3, b4⟩ := b4
  refine q_asgR (er_op (EvD.toR ev_int (er_op ?_)))
  refine er_next (m := 4) rfl (by walk_at "ea") (by decide) st n0 (by omega) fun v o2 st2 v0 v1 => ?_
  refine EvD.toR ev_int ⟨_, rv_I (cfd (n := 40) (by decide) (Bd.of (by decide)) (by decide)), _, rv_I0, _, tg_name, ?_⟩
  have hg : 1 + v.fdiv 3 = 1 ∨ 1 + v.fdiv 3 = 2 := by
    have hv : v = 0 ∨ v = 1 ∨ v = 2 ∨ v = 3 := by omega
    rcases hv with rfl | rfl | rfl | rfl <;> decide
  generalize 1 + v.fdiv 3 = g at *
  obtain ⟨es, rfl, n', q1, q2, q3⟩ := st2.fin
  have hg2 : g.natAbs ≤ 2 := by omega
  have m1 : (g * p).natAbs ≤ 10 := mul_le hg2 b1
  have m2 : (g * q).natAbs ≤ 10 := mul_le hg2 b2
  refine s_ret (d := dF ⟨g * p * r, g * (p * s + q * r), g * q * s⟩) (ev_tup (ea_cons (ev_op (ev_op (ev_var rfl) (ev_var rfl) (rv_I (mp hg2 b1 (by decide)))) (ev_var rfl) (rv_I (mp m1 b3 (by decide)))) (ea_cons (ev_op (ev_var rfl) (ev_op (ev_op (ev_var rfl) (ev_var rfl) (rv_I (mp b1 b4 (by decide)))) (ev_op (ev_var rfl) (ev_var rfl) (rv_I (mp b2 b3 (by decide)))) rv_I0) (rv_I (mp hg2 (Nat.le_refl _) (by decide)))) (ea_cons (ev_op (ev_op (ev_var rfl) (ev_var rfl) (rv_I (mp hg2 b2 (by decide)))) (ev_var rfl) (rv_I (mp m2 b4 (by decide)))) ea_nil))) (Nat.le_of_ble_eq_true rfl)) ⟨es, rfl, fun n1' hn1 => ?_⟩
  have en := cnt_inj hn1 hc
  subst en
  exact ⟨n', q1, q2, by omega, _, rfl, split_drawn hg hne hpq⟩


def Pre_law_flat (ds cs : List PyData) : Prop := ∃  (n : Int), ds = [] ∧ Cnt cs n ∧ 0 ≤ n ∧ n ≤ 90000
def Post_law_flat (ds cs : List PyData) (d : PyData) (es : List PyData) : Prop := ∀ n, Cnt cs n → ∃ n', Cnt es n' ∧ n ≤ n' ∧ n' ≤ n + 3 ∧ (∃ g, d = dF g ∧ Drawn g)

theorem sc_law_flat : FnScope ["_law_state_here", "_law_p", "_law_q", "_law_g"] ["_law_state_here"] (defScope (top 58)) := ⟨rfl, rfl, rfl, by decide +kernel, rfl, by decide +kernel, by decide +kernel⟩
theorem ok_law_flat (T : Md K mg) (D : DefAt K mg "_law_flat" "_law_flat" (top 58) ["_law_state_here"]) (G_law_next : Ok P w K mg base 1 "_law_next" ["_law_state_here", "_law_many"] (spS K Pre_law_next Post_law_next)) : Ok P w K mg base 2 "_law_flat" ["_law_state_here"] (spS K Pre_law_flat Post_law_flat) := by
  refine ok_own D sc_law_flat (fun ds cs h => by obtain ⟨n, rfl, _⟩ := h; rfl) fun f cdv A outer s H E hr => ?_
  refine ⟨_, (pss_cons (ps_set (i := 1) sc_law_flat.nd rfl (Or.inl rfl) (pe_op op_sub (pe_callO G_law_next (hr.mono (by decide)) (by rfl) (pa_cons (pv 0) (pa_cons pe_int pa_nil))) pe_int))
      (pss_cons (ps_set (i := 2) sc_law_flat.nd rfl (Or.inl rfl) (pe_op op_sub (pe_callO G_law_next (hr.mono (by decide)) (by rfl) (pa_cons (pv 0) (pa_cons pe_int pa_nil))) pe_int))
      (pss_cons (ps_set (i := 3) sc_law_flat.nd rfl (Or.inl rfl) (pe_ix (ix_listK (K := K) (by exact rfl)) (pe_lst (pa_cons pe_int (pa_cons pe_int (pa_cons (pe_un un_neg pe_int) (pa_cons pe_int (pa_cons (pe_un un_neg pe_int) pa_nil)))))) (pe_callO G_law_next (hr.mono (by decide)) (by rfl) (pa_cons (pv 0) (pa_cons pe_int pa_nil))) (fun _ _ => rfl)))
      (pss_cons (ps_if (PW.pt (pw_and (pt_cmpR (op_eqDK (K := K) (by exact rfl) hr.units) (pv 1) pe_int (nomark _)) (pw_and1 (pt_cmpR (op_eqDK (K := K) (by exact rfl) hr.units) (pv 2) pe_int (nomark _))))) (pss_one (ps_set (i := 2) sc_law_flat.nd rfl (Or.inl rfl) pe_int)) pss_nil)
      (pss_one (ps_ret (pe_tup (pa_cons (pe_op op_mulX (pe_op op_mulX (pv 3) (pv 1)) (pv 1)) (pa_cons (pe_op op_mulX (pe_op op_mulX (pe_op op_mulX pe_int (pv 3)) (pv 1)) (pv 2)) (pa_cons (pe_op op_mulX (pe_op op_mulX (pv 3) (pv 2)) (pv 2)) pa_nil)))))))))), ?_⟩
  rintro l _ cs ⟨n, rfl, hc, n0, n1⟩
  show SD K (some l) _ [.own, .no, .no, .no] (some cs) _ _ _ _
  refine q_asgR (er_op (er_next (m := 7) rfl (by walk_at "ea") (by decide) (Stt.start hc) n0 (by omega) fun v1 o1 st1 v10 v11 => EvD.toR ev_int ⟨_, rv_I0, _, tg_name, ?_⟩))
  refine q_asgR (er_op (er_next (m := 7) rfl (by walk_at "ea") (by decide) st1 n0 (by omega) fun v2 o2 st2 v20 v21 => EvD.toR ev_int ⟨_, rv_I0, _, tg_name, ?_⟩))
  refine q_asgR (er_op (EvD.toR (d := .list [.int 1, .int 1, .int (-1), .int 2, .int (-3)]) (by walk_at "ev") ?_))
  refine er_next (m := 5) rfl (by walk_at "ea") (by decide) st2 n0 (by omega) fun w o3 st3 w0 w1 => ?_
  obtain ⟨g, hN, g0, g3⟩ : ∃ g : Int, atI [PyData.int 1, .int 1, .int (-1), .int 2, .int (-3)] w = some (.int g) ∧ g ≠ 0 ∧ g.natAbs ≤ 3 := by
    have hw : w = 0 ∨ w = 1 ∨ w = 2 ∨ w = 3 ∨ w = 4 := by omega
    rcases hw with rfl | rfl | rfl | rfl | rfl
    · exact ⟨1, rfl, by decide, by decide⟩
    · exact ⟨1, rfl, by decide, by decide⟩
    · exact ⟨-1, rfl, by decide, by decide⟩
    · exact ⟨2, rfl, by decide, by decide⟩
    · exact ⟨-3, rfl, by decide, by decide⟩
  refine ⟨_, rv_ixL hN, _, tg_name, ?_⟩
  have hp : (v1 - 3).natAbs ≤ 3 := by omega
  have hq : (v2 - 3).natAbs ≤ 3 := by omega
  show SD K (some l) _ [.own, .d (.int (v1 - 3)), .d (.int (v2 - 3)), .d (.int g)] o3 _ _ _ _
  generalize v1 - 3 = p at *
  generalize v2 - 3 = q at *
  refine s_seq (M := fun e o => ∃ q : Int, e = [.own, .d (.int p), .d (.int q), .d (.int g)] ∧ o = o3 ∧ q.natAbs ≤ 3 ∧ ¬ (p = 0 ∧ q = 0)) (s_if (b := decide (p = 0) && decide (q = 0)) (by walk_at "et") (fun hh => ?_) fun hh => ?_) ?_
  · exact s_asg (by walk_at "ev") ⟨1, rfl, rfl, by decide, fun z => absurd z.2 (by decide)⟩
  · exact s_next ⟨q, rfl, rfl, hq, fun z => by simp [z.1, z.2] at hh⟩
  rintro _ _ ⟨q, rfl, rfl, hq, hne⟩
  obtain ⟨es, rfl, n', q1, q2, q3⟩ := st3.fin
  have mp : ∀ {a b : Int} {k : Nat}, a.natAbs ≤ k → k ≤ 100 → IntMulOk a b := fun h hk => mulok_l (Bd.of (by omega))
  have m1 : (g * p).natAbs ≤ 9 := mul_le g3 hp
  have m2 : (g * q).natAbs ≤ 9 := mul_le g3 hq
  have m3 : (2 * g).natAbs ≤ 6 := by omega
  have m4 : (2 * g * p).natAbs ≤ 18 := mul_le m3 hp
  refine s_ret (d := dF ⟨g * p * p, 2 * g * p * q, g * q * q⟩) (ev_tup (ea_cons (ev_op (ev_op (ev_var rfl) (ev_var rfl) (rv_I (mp g3 (by decide)))) (ev_var rfl) (rv_I (mp m1 (by decide)))) (ea_cons (ev_op (ev_op (ev_op ev_int (ev_var rfl) (rv_I (mulok_l (Bd.of (by decide))))) (ev_var rfl) (rv_I (mp m3 (by decide)))) (ev_var rfl) (rv_I (mp m4 (by decide)))) (ea_cons (ev_op (ev_op (ev_var rfl) (ev_var rfl) (rv_I (mp g3 (by decide)))) (ev_var rfl) (rv_I (mp m2 (by decide)))) ea_nil))) (Nat.le_of_ble_eq_true rfl)) ⟨es, rfl, fun n1' hn1 => ?_⟩
  have en := cnt_inj hn1 hc
  subst en
  exact ⟨n', q1, q2, by omega, _, rfl, flat_drawn g3 g0 hp hq hne⟩


end
end Kx

-- K19
set_option maxHeartbeats 2000000
namespace Kx
open PySem PySem.Spec PyProof.Rows L2
local macro_rules | `(tactic| walk_at "bd") => `(tactic| first | assumption | exact Bd.lit (by decide) | ((with_reducible apply Bd.mul) <;> walk_at "bd") | ((with_reducible apply Bd.add) <;> walk_at "bd") | ((with_reducible apply Bd.sub) <;> walk_at "bd") | ((with_reducible apply Bd.neg); walk_at "bd"))
local macro_rules | `(tactic| walk_at "mul") => `(tactic| first | assumption | exact mulok_l (Bd.mono (by walk_at "bd") (by omega)) | exact mulok_r (Bd.mono (by walk_at "bd") (by omega)) | ((with_reducible apply mulok); (focus walk_at "bd"); (focus walk_at "bd"); omega))
local macro_rules | `(tactic| walk_at "cond") => `(tactic| first | assumption | walk_at "mul" | exact cfd (by first | assumption | omega) (by walk_at "bd") (by omega) | omega | decide)
local macro_rules | `(tactic| walk_at "rv") => `(tactic| first | with_reducible exact rv_I0 | with_reducible exact rv_B0 | with_reducible exact rv_eqI | with_reducible exact rv_neI | with_reducible exact rv_eqF | with_reducible exact rv_neF | with_reducible exact rv_eqS | ((with_reducible apply rv_I); walk_at "cond") | ((with_reducible apply rv_ixT); exact rfl) | ((with_reducible apply rv_ixL); exact rfl) | with_reducible exact rv_isN | with_reducible exact rv_notN | exact rv_cat (Nat.le_of_ble_eq_true rfl))
local macro_rules | `(tactic| walk_at "ev") => `(tactic| first
  | ((with_reducible apply ev_var); exact rfl) | with_reducible exact ev_int | with_reducible exact ev_bl | with_reducible exact ev_str | with_reducible exact ev_non | exact ev_quad (by assumption)
  | ((with_reducible apply ev_op); (focus walk_at "ev"); (focus walk_at "ev"); (focus walk_at "rv"))
  | ((with_reducible apply ev_un); (focus walk_at "ev"); with_reducible exact ru_I)
  | ((with_reducible apply ev_tup); (focus walk_at "ea"); exact Nat.le_of_ble_eq_true rfl)
  | ((with_reducible apply ev_lst); (focus walk_at "ea"); exact Nat.le_of_ble_eq_true rfl)
  | ((with_reducible apply ev_call); (focus walk_at "ea"); (focus walk_at "call"))
  | ((with_reducible apply ev_cb); (focus walk_at "ea"); (focus walk_at "rc"))
  | ((with_reducible apply ev_andV); (focus walk_at "ev"); (intro hh_; (focus walk_at "ev")))
  | ((with_reducible apply ev_orV); (focus walk_at "ev"); (intro hh_; (focus walk_at "ev")))
  | ((with_reducible apply ev_chain); (focus walk_at "ev"); (focus walk_at "ev"); (focus walk_at "rv"); (intro hh_; (focus walk_at "ev")); (intro hh_; (focus walk_at "rv")))
  | ((with_reducible apply ev_notV); walk_at "ev")
  | ((with_reducible apply ev_cut2); walk_at "ev"))
local macro_rules | `(tactic| walk_at "ea") => `(tactic| first | with_reducible exact ea_nil | ((with_reducible apply ea_cons); (focus walk_at "ev"); (focus walk_at "ea")))
local macro_rules | `(tactic| walk_at "rc") => `(tactic| first | with_reducible exact rc_abs | with_reducible exact rc_intI | with_reducible exact rc_intB | with_reducible exact rc_lenL | with_reducible exact rc_tupOf | exact rc_isq (by assumption) (by assumption) | exact rc_isq (by omega) (by omega))
local macro_rules | `(tactic| walk_at "et") => `(tactic| first
  | ((with_reducible apply et_test); walk_at "ev")
  | ((with_reducible apply et_B); walk_at "ev")
  | ((with_reducible apply et_and); (focus walk_at "et"); (intro hh_; (focus walk_at "et")))
  | ((with_reducible apply et_or); (focus walk_at "et"); (intro hh_; (focus walk_at "et")))
  | ((with_reducible apply et_not); walk_at "et"))
local macro_rules | `(tactic| walk_at "tg") => `(tactic| first | with_reducible exact tg_name | ((with_reducible apply tg_tup); (focus walk_at "tgs"); exact rfl) | ((with_reducible apply tg_unl); (focus walk_at "tgs"); exact rfl))
local macro_rules | `(tactic| walk_at "tgs") => `(tactic| first | with_reducible exact tg_nil | ((with_reducible apply tg_cons); (focus walk_at "tg"); (focus walk_at "tgs")))
local macro_rules | `(tactic| walk_at "pre") => `(tactic| first | assumption | walk_at "bd" | exact Bd.mono (by walk_at "bd") (by omega) | omega | decide)

local macro_rules | `(tactic| walk_at "call") => `(tactic| ((with_reducible apply i_worth); all_goals (walk_at "pre")))

local macro_rules | `(tactic| walk_at "call") => `(tactic| ((with_reducible apply i_act); all_goals (walk_at "pre")))

local macro_rules | `(tactic| walk_at "call") => `(tactic| ((with_reducible apply i_discriminant); all_goals (walk_at "pre")))

local macro_rules | `(tactic| walk_at "call") => `(tactic| ((with_reducible apply i_scaled); all_goals (walk_at "pre")))

local macro_rules | `(tactic| walk_at "call") => `(tactic| ((with_reducible apply i_divided); all_goals (walk_at "pre")))

local macro_rules | `(tactic| walk_at "call") => `(tactic| ((with_reducible apply i_multiply); all_goals (walk_at "pre")))

local macro_rules | `(tactic| walk_at "call") => `(tactic| ((with_reducible apply i_determinant); all_goals (walk_at "pre")))

local macro_rules | `(tactic| walk_at "call") => `(tactic| ((with_reducible apply i_inverse); all_goals (walk_at "pre")))

local macro_rules | `(tactic| walk_at "call") => `(tactic| ((with_reducible apply i_floor_root); all_goals (walk_at "pre")))

local macro_rules | `(tactic| walk_at "call") => `(tactic| ((with_reducible apply i_is_square); all_goals (walk_at "pre")))

local macro_rules | `(tactic| walk_at "call") => `(tactic| ((with_reducible apply i_kind); all_goals (walk_at "pre")))

local macro_rules | `(tactic| walk_at "call") => `(tactic| ((with_reducible apply i_is_reduced_definite)))


local macro_rules | `(tactic| walk_at "call") => `(tactic| ((with_reducible apply i_measure); all_goals (walk_at "pre")))

local macro_rules | `(tactic| walk_at "call") => `(tactic| ((with_reducible apply i_content); all_goals (walk_at "pre")))

local macro_rules | `(tactic| walk_at "call") => `(tactic| ((with_reducible apply i_is_reduced_indefinite); all_goals (walk_at "pre")))

local macro_rules | `(tactic| walk_at "call") => `(tactic| ((with_reducible apply i_step_of); all_goals (walk_at "pre")))

local macro_rules | `(tactic| walk_at "call") => `(tactic| ((with_reducible apply i_law_root); all_goals (walk_at "pre")))

local macro_rules | `(tactic| walk_at "call") => `(tactic| ((with_reducible apply i_law_square); all_goals (walk_at "pre")))

local macro_rules | `(tactic| walk_at "call") => `(tactic| ((with_reducible apply i_law_kind); all_goals (walk_at "pre")))

local macro_rules | `(tactic| walk_at "call") => `(tactic| ((with_reducible apply i_law_is_reduced); all_goals (walk_at "pre")))

local macro_rules | `(tactic| walk_at "call") => `(tactic| ((with_reducible apply i_law_neighbour); all_goals (walk_at "pre")))

local macro_rules | `(tactic| walk_at "call") => `(tactic| ((with_reducible apply i_law_worth); all_goals (walk_at "pre")))

local macro_rules | `(tactic| walk_at "call") => `(tactic| ((with_reducible apply i_law_act); all_goals (walk_at "pre")))

local macro_rules | `(tactic| walk_at "call") => `(tactic| ((with_reducible apply i_law_mul); all_goals (walk_at "pre")))

local macro_rules | `(tactic| walk_at "call") => `(tactic| ((with_reducible apply i_law_measure); all_goals (walk_at "pre")))

local macro_rules | `(tactic| walk_at "call") => `(tactic| ((with_reducible apply i_discF); assumption))
local macro_rules | `(tactic| walk_at "cond") => `(tactic| exact (⟨by decide, by decide, by decide⟩ : CPow _ _))

theorem sgn_at {w : Int} (w0 : 0 ≤ w) (w1 : w < 2) : ∃ e : Int, atI [PyData.int 1, .int (-1)] w = some (.int e) ∧ (e = 1 ∨ e = -1) := by
  have hw : w = 0 ∨ w = 1 := by omega
  rcases hw with rfl | rfl
  · exact ⟨1, rfl, .inl rfl⟩
  · exact ⟨-1, rfl, .inr rfl⟩
theorem sgn_five {v e : Int} (v0 : 0 ≤ v) (v1 : v < 5) (he : e = 1 ∨ e = -1) : (1 + v) * e ≠ 0 ∧ ((1 + v) * e).natAbs ≤ 5 := by
  rcases he with rfl | rfl
  · omega
  · omega
def kinds : List Str := ["definite", "indefinite", "split", "flat"]
theorem shaped_kind {s : Str} (h : s ∈ kinds) : SeqAt.shaped (.str s) = true := by
  unfold kinds at h
  simp only [List.mem_cons, List.not_mem_nil, or_false] at h
  rcases h with rfl | rfl | rfl | rfl <;> decide +kernel
theorem kn_kind (D : Int) : kn D ∈ kinds := by
  unfold kn kinds
  split
  · simp
  · split
    · simp
    · split <;> simp

section
variable {P : Program} {w : World} {K : Fg} {mg : Str → Option Value} {base : Heap}

def Pre_law_form (ds cs : List PyData) : Prop := ∃ (s : Str) (n : Int), ds = [.str s] ∧ s ∈ kinds ∧ Cnt cs n ∧ 0 ≤ n ∧ n ≤ 80000
def Post_law_form (ds cs : List PyData) (d : PyData) (es : List PyData) : Prop := ∀ n, Cnt cs n → ∃ n', Cnt es n' ∧ n ≤ n' ∧ n' ≤ n + 160 ∧ (∀ (s : Str), ds = [.str s] → ∃ g, d = dF g ∧ Drawn g)

def LfoI (s : Str) (n0 : Int) (i : Nat) (e : List Sl) (o : OS) : Prop := ∃ (x y z t : Sl), e = [.own, .d (.str s), x, y, z, t] ∧ Stt n0 (5 * i) o
theorem sc_law_form : FnScope ["_law_state_here", "_law_sort", "_law_k", "_law_a", "_law_c", "_law_form_here"] ["_law_state_here", "_law_sort"] (defScope (top 59)) := ⟨rfl, rfl, rfl, by decide +kernel, rfl, by decide +kernel, by decide +kernel⟩
theorem ok_law_form (T : Md K mg) (D : DefAt K mg "_law_form" "_law_form" (top 59) ["_law_state_here", "_law_sort"]) (G_law_kind : Ok P w K mg base 3 "_law_kind" ["_law_form_here"] (spD K R_law_kind)) (G_law_next : Ok P w K mg base 1 "_law_next" ["_law_state_here", "_law_many"] (spS K Pre_law_next Post_law_next)) (G_law_flat : Ok P w K mg base 2 "_law_flat" ["_law_state_here"] (spS K Pre_law_flat Post_law_flat)) (G_law_split : Ok P w K mg base 2 "_law_split" ["_law_state_here"] (spS K Pre_law_split Post_law_split)) : Ok P w K mg base 4 "_law_form" ["_law_state_here", "_law_sort"] (spS K Pre_law_form Post_law_form) := by
  refine ok_own D sc_law_form (fun ds cs h => by obtain ⟨s, n, rfl, _⟩ := h; rfl) fun f cdv A outer s H E hr => ?_
  refine ⟨_, (pss_cons (ps_if (pt_cmpR (op_eqDK (K := K) (by exact rfl) hr.units) (pv 1) pe_str (nomark _)) (pss_one (ps_ret (pe_callO G_law_split (hr.mono (by decide)) (by rfl) (pa_cons (pv 0) pa_nil)))) pss_nil)
      (pss_cons (ps_if (pt_cmpR (op_eqDK (K := K) (by exact rfl) hr.units) (pv 1) pe_str (nomark _)) (pss_one (ps_ret (pe_callO G_law_flat (hr.mono (by decide)) (by rfl) (pa_cons (pv 0) pa_nil)))) pss_nil)
      (pss_cons (ps_for PassesOwn.never rfl (pi_range1 (by rfl) T.range (pa_cons pe_int pa_nil)) (pg_name (i := 2) sc_law_form.nd rfl (Or.inl rfl)) (pss_cons (ps_set (i := 3) sc_law_form.nd rfl (Or.inl rfl) (pe_op op_mulX (pe_op op_add pe_int (pe_callO G_law_next (hr.mono (by decide)) (by rfl) (pa_cons (pv 0) (pa_cons pe_int pa_nil)))) (pe_ix (ix_listK (K := K) (by exact rfl)) (pe_lst (pa_cons pe_int (pa_cons (pe_un un_neg pe_int) pa_nil))) (pe_callO G_law_next (hr.mono (by decide)) (by rfl) (pa_cons (pv 0) (pa_cons pe_int pa_nil))) (fun _ _ => rfl))))
      (pss_cons (ps_set (i := 4) sc_law_form.nd rfl (Or.inl rfl) (pe_op op_mulX (pe_op op_add pe_int (pe_callO G_law_next (hr.mono (by decide)) (by rfl) (pa_cons (pv 0) (pa_cons pe_int pa_nil)))) (pe_ix (ix_listK (K := K) (by exact rfl)) (pe_lst (pa_cons pe_int (pa_cons (pe_un un_neg pe_int) pa_nil))) (pe_callO G_law_next (hr.mono (by decide)) (by rfl) (pa_cons (pv 0) (pa_cons pe_int pa_nil))) (fun _ _ => rfl))))
      (pss_cons (ps_set (i := 5) sc_law_form.nd rfl (Or.inl rfl) (pe_tup (pa_cons (pv 3) (pa_cons (pe_op op_sub (pe_callO G_law_next (hr.mono (by decide)) (by rfl) (pa_cons (pv 0) (pa_cons pe_int pa_nil))) pe_int) (pa_cons (pv 4) pa_nil)))))
      (pss_one (ps_if (pt_cmpR (op_eqDK (K := K) (by exact rfl) hr.units) (pe_callO G_law_kind (hr.mono (by decide)) (by rfl) (pa_cons (pv 5) pa_nil)) (pv 1) (nomark _)) (pss_one (ps_ret (pv 5))) pss_nil))))))
      (pss_one (ps_ret (pe_ix (ix_listK (K := K) (by exact rfl)) (pe_lst (pa_cons (pe_tup (pa_cons pe_int (pa_cons pe_int (pa_cons pe_int pa_nil)))) (pa_cons (pe_tup (pa_cons pe_int (pa_cons pe_int (pa_cons (pe_un un_neg pe_int) pa_nil)))) pa_nil))) (pe_callTy call_int1 (by rfl) T.int PyProof.Rows.boot_int (pa_cons (pe_cmpR (op_eqDK (K := K) (by exact rfl) hr.units) (pv 1) pe_str (nomark _)) pa_nil)) (fun _ _ => rfl))))))), ?_⟩
  rintro l _ cs ⟨s, n, rfl, h0, hc, n0, n1⟩
  show SD K (some l) _ [.own, .d (.str s), .no, .no, .no, .no] (some cs) _ _ _ _
  have hsh := shaped_kind h0
  have fin : ∀ {b : Int} {es : List PyData} {g : Mth.F3}, Stt n b (some es) → b ≤ 160 → Drawn g → Post_law_form [.str s] cs (dF g) es := fun {b es g} st hb dr n1' hn1 => by
    have en := cnt_inj hn1 hc
    subst en
    obtain ⟨es2, e2, n', q1, q2, q3⟩ := st.fin
    cases e2
    exact ⟨n', q1, q2, by omega, fun _ _ => ⟨g, rfl, dr⟩⟩
  refine s_seq (M := fun e o => e = [.own, .d (.str s), .no, .no, .no, .no] ∧ o = some cs) (s_if (b := decide (s = "split")) (et_test (ev_op (ev_var rfl) ev_str (rv_eqS hsh))) (fun hh => ?_) fun hh => s_next ⟨rfl, rfl⟩) ?_
  · refine s_retR (er_callS rfl (ea_nil.toR ⟨cs, rfl, ⟨n, rfl, hc, n0, by omega⟩, fun d es hp => ?_⟩))
    obtain ⟨n', q1, q2, q3, g, rfl, dr⟩ := hp n hc
    exact ⟨es, rfl, fin (b := 12) ⟨es, n', rfl, q1, q2, q3⟩ (by decide) dr⟩
  rintro _ _ ⟨rfl, rfl⟩
  refine s_seq (M := fun e o => e = [.own, .d (.str s), .no, .no, .no, .no] ∧ o = some cs) (s_if (b := decide (s = "flat")) (et_test (ev_op (ev_var rfl) ev_str (rv_eqS hsh))) (fun hh => ?_) fun hh => s_next ⟨rfl, rfl⟩) ?_
  · refine s_retR (er_callS rfl (ea_nil.toR ⟨cs, rfl, ⟨n, rfl, hc, n0, by omega⟩, fun d es hp => ?_⟩))
    obtain ⟨n', q1, q2, q3, g, rfl, dr⟩ := hp n hc
    exact ⟨es, rfl, fin (b := 3) ⟨es, n', rfl, q1, q2, q3⟩ (by decide) dr⟩
  rintro _ _ ⟨rfl, rfl⟩
  refine s_seq (M := LfoI s n 30) (s_forR (LfoI s n) ((by walk_at "ea" : EvA K _ _ _ [.int 30]).toR ⟨30, rfl, by decide, by decide, ⟨_, _, _, _, rfl, Stt.start hc⟩, ?_, fun e o h => h⟩)) ?_
  · rintro i _ o hi ⟨x, y, z, t, rfl, st⟩
    refine q_asgR (er_op (er_op (EvD.toR ev_int (er_next (m := 5) rfl (by walk_at "ea") (by decide) st n0 (by omega) fun v1 o1 st1 v10 v11 => ⟨_, rv_I0, ?_⟩))))
    refine er_op (EvD.toR (d := .list [.int 1, .int (-1)]) (by walk_at "ev") (er_next (m := 2) rfl (by walk_at "ea") (by decide) st1 n0 (by omega) fun w1 o2 st2 w10 w11 => ?_))
    obtain ⟨e1, he1, hs1⟩ := sgn_at w10 w11
    obtain ⟨a1, a2⟩ := sgn_five v10 v11 hs1
    refine ⟨_, rv_ixL he1, .int ((1 + v1) * e1), rv_I (mulok_l (Bd.of (by omega))), _, tg_name, ?_⟩
    refine q_asgR (er_op (er_op (EvD.toR ev_int (er_next (m := 5) rfl (by walk_at "ea") (by decide) st2 n0 (by omega) fun v2 o3 st3 v20 v21 => ⟨_, rv_I0, ?_⟩))))
    refine er_op (EvD.toR (d := .list [.int 1, .int (-1)]) (by walk_at "ev") (er_next (m := 2) rfl (by walk_at "ea") (by decide) st3 n0 (by omega) fun w2 o4 st4 w20 w21 => ?_))
    obtain ⟨e2, he2, hs2⟩ := sgn_at w20 w21
    obtain ⟨c1, c2⟩ := sgn_five v20 v21 hs2
    refine ⟨_, rv_ixL he2, .int ((1 + v2) * e2), rv_I (mulok_l (Bd.of (by omega))), _, tg_name, ?_⟩
    show SD K (some l) _ [.own, .d (.str s), .d (.int (i : Int)), .d (.int ((1 + v1) * e1)), .d (.int ((1 + v2) * e2)), t] o4 _ _ _ _
    generalize (1 + v1) * e1 = a at *
    generalize (1 + v2) * e2 = c at *
    refine q_asgR (er_tup (ear_cons (EvD.toR (ev_var rfl) (ear_cons (er_op ?_)))))
    refine er_next (m := 13) rfl (by walk_at "ea") (by decide) st4 n0 (by omega) fun v3 o5 st5 v30 v31 => EvD.toR ev_int ⟨_, rv_I0, ?_⟩
    refine ear_cons (EvD.toR (ev_var rfl) (ear_nil ⟨Nat.le_of_ble_eq_true rfl, _, tg_name, ?_⟩))
    have b2 : (v3 - 6).natAbs ≤ 6 := by omega
    generalize v3 - 6 = b at *
    have dr := plain_drawn a2 b2 c2 a1
    show SD K (some l) _ [.own, .d (.str s), .d (.int (i : Int)), .d (.int a), .d (.int c), .d (dF ⟨a, b, c⟩)] o5 _ _ _ _
    refine s_if (b := decide (kn (Mth.dscF ⟨a, b, c⟩) = s)) (et_test (ev_op (ev_call (ds := [dF ⟨a, b, c⟩]) (by walk_at "ea") (i_law_kind (dr.sz.bd (by decide)) (by have := dr.hi; omega))) (ev_var rfl) (rv_eqS (shaped_kind (kn_kind _)) hsh))) (fun hh => ?_) fun hh => s_next ⟨_, _, _, _, rfl, st5.up (by omega)⟩
    obtain ⟨es, rfl, _⟩ := st5.fin
    exact s_ret (by walk_at "ev") ⟨es, rfl, fin st5 (by omega) dr⟩
  rintro _ o ⟨x, y, z, t, rfl, st⟩
  obtain ⟨es, rfl, _⟩ := st.fin
  have d1 : Drawn ⟨1, 1, 2⟩ := plain_drawn (by decide) (by decide) (by decide) (by decide)
  have d2 : Drawn ⟨1, 0, -2⟩ := plain_drawn (by decide) (by decide) (by decide) (by decide)
  refine s_ret (d := dF (if s = "indefinite" then ⟨1, 0, -2⟩ else ⟨1, 1, 2⟩)) (ev_op (ev_lst (ds := [dF ⟨1, 1, 2⟩, dF ⟨1, 0, -2⟩]) (by walk_at "ea") (Nat.le_of_ble_eq_true rfl)) (ev_cb (ea_cons (ev_op (ev_var rfl) ev_str (rv_eqS hsh)) ea_nil) rc_intB) (rv_ixL ?_)) ⟨es, rfl, ?_⟩
  · by_cases hs : s = "indefinite"
    · rw [if_pos hs, decide_eq_true hs]
      rfl
    · rw [if_neg hs, decide_eq_false hs]
      rfl
  · split
    · exact fin st (by omega) d2
    · exact fin st (by omega) d1


def Pre_law_other (ds cs : List PyData) : Prop := ∃ (g : Mth.F3) (n : Int), ds = [dF g] ∧ Sz 2200000 g ∧ -1300 ≤ Mth.dscF g ∧ Mth.dscF g ≤ 1300 ∧ Cnt cs n ∧ 0 ≤ n ∧ n ≤ 90000
def Post_law_other (ds cs : List PyData) (d : PyData) (es : List PyData) : Prop := ∀ n, Cnt cs n → ∃ n', Cnt es n' ∧ n ≤ n' ∧ n' ≤ n + 90 ∧ (∀ (g : Mth.F3), ds = [dF g] → ∃ h, d = dF h ∧ Sz 2200000 h ∧ -1300 ≤ Mth.dscF h ∧ Mth.dscF h ≤ 1300)

def LotI (g : Mth.F3) (v n0 : Int) (i : Nat) (e : List Sl) (o : OS) : Prop := ∃ (x y z : Sl), e = [.own, .d (dF g), .d (.int (Mth.dscF g)), .d (.int v), x, y, z] ∧ Stt n0 (1 + 2 * i) o
theorem sc_law_other : FnScope ["_law_state_here", "_law_form_here", "_law_d", "_law_pick", "_law_k", "_law_b", "_law_a"] ["_law_state_here", "_law_form_here"] (defScope (top 69)) := ⟨rfl, rfl, rfl, by decide +kernel, rfl, by decide +kernel, by decide +kernel⟩
theorem ok_law_other (T : Md K mg) (D : DefAt K mg "_law_other" "_law_other" (top 69) ["_law_state_here", "_law_form_here"]) (G_law_next : Ok P w K mg base 1 "_law_next" ["_law_state_here", "_law_many"] (spS K Pre_law_next Post_law_next)) : Ok P w K mg base 2 "_law_other" ["_law_state_here", "_law_form_here"] (spS K Pre_law_other Post_law_other) := by
  refine ok_own D sc_law_other (fun ds cs h => by obtain ⟨g, n, rfl, _⟩ := h; rfl) fun f cdv A outer s H E hr => ?_
  refine ⟨_, (pss_cons (ps_set (i := 2) sc_law_other.nd rfl (Or.inl rfl) (pe_op op_sub (pe_op op_mulX (pe_ix (ix_tupK (K := K) (by exact rfl)) (pv 1) pe_int (fun _ _ => rfl)) (pe_ix (ix_tupK (K := K) (by exact rfl)) (pv 1) pe_int (fun _ _ => rfl))) (pe_op op_mulX (pe_op op_mulX pe_int (pe_ix (ix_tupK (K := K) (by exact rfl)) (pv 1) pe_int (fun _ _ => rfl))) (pe_ix (ix_tupK (K := K) (by exact rfl)) (pv 1) pe_int (fun _ _ => rfl)))))
      (pss_cons (ps_set (i := 3) sc_law_other.nd rfl (Or.inl rfl) (pe_callO G_law_next (hr.mono (by decide)) (by rfl) (pa_cons (pv 0) (pa_cons pe_int pa_nil))))
      (pss_cons (ps_if (pt_cmpR (op_eqDK (K := K) (by exact rfl) hr.units) (pv 3) pe_int (nomark _)) (pss_one (ps_ret (pe_tup (pa_cons (pe_ix (ix_tupK (K := K) (by exact rfl)) (pv 1) pe_int (fun _ _ => rfl)) (pa_cons (pe_un un_neg (pe_ix (ix_tupK (K := K) (by exact rfl)) (pv 1) pe_int (fun _ _ => rfl))) (pa_cons (pe_ix (ix_tupK (K := K) (by exact rfl)) (pv 1) pe_int (fun _ _ => rfl)) pa_nil)))))) pss_nil)
      (pss_cons (ps_if (pt_cmpR (op_eqDK (K := K) (by exact rfl) hr.units) (pv 3) pe_int (nomark _)) (pss_one (ps_ret (pe_tup (pa_cons (pe_un un_neg (pe_ix (ix_tupK (K := K) (by exact rfl)) (pv 1) pe_int (fun _ _ => rfl))) (pa_cons (pe_ix (ix_tupK (K := K) (by exact rfl)) (pv 1) pe_int (fun _ _ => rfl)) (pa_cons (pe_un un_neg (pe_ix (ix_tupK (K := K) (by exact rfl)) (pv 1) pe_int (fun _ _ => rfl))) pa_nil)))))) pss_nil)
      (pss_cons (ps_if (pt_cmpR op_gt (pv 3) pe_int (nomark _)) (pss_one (ps_for PassesOwn.never rfl (pi_range1 (by rfl) T.range (pa_cons pe_int pa_nil)) (pg_name (i := 4) sc_law_other.nd rfl (Or.inl rfl)) (pss_cons (ps_set (i := 5) sc_law_other.nd rfl (Or.inl rfl) (pe_op op_add (pe_op op_mulX pe_int (pe_callO G_law_next (hr.mono (by decide)) (by rfl) (pa_cons (pv 0) (pa_cons pe_int pa_nil)))) (pe_op op_modN (pe_ix (ix_tupK (K := K) (by exact rfl)) (pv 1) pe_int (fun _ _ => rfl)) pe_int)))
      (pss_cons (ps_set (i := 6) sc_law_other.nd rfl (Or.inl rfl) (pe_op op_add pe_int (pe_callO G_law_next (hr.mono (by decide)) (by rfl) (pa_cons (pv 0) (pa_cons pe_int pa_nil)))))
      (pss_one (ps_if (pt_cmpR (op_eqDK (K := K) (by exact rfl) hr.units) (pe_op op_modN (pe_op op_sub (pe_op op_mulX (pv 5) (pv 5)) (pv 2)) (pe_op op_mulX pe_int (pv 6))) pe_int (nomark _)) (pss_one (ps_ret (pe_tup (pa_cons (pv 6) (pa_cons (pv 5) (pa_cons (pe_op op_fdX (pe_op op_sub (pe_op op_mulX (pv 5) (pv 5)) (pv 2)) (pe_op op_mulX pe_int (pv 6))) pa_nil)))))) pss_nil)))))) pss_nil)
      (pss_one (ps_ret (pv 1)))))))), ?_⟩
  rintro l _ cs ⟨g, n, rfl, h0, h1, h2, hc, n0, n1⟩
  show SD K (some l) _ [.own, .d (dF g), .no, .no, .no, .no, .no] (some cs) _ _ _ _
  have fin : ∀ {b : Int} {es : List PyData} {h : Mth.F3}, Stt n b (some es) → b ≤ 90 → Sz 2200000 h → Mth.dscF h = Mth.dscF g → Post_law_other [dF g] cs (dF h) es := fun {b es h} st hb sz e n1' hn1 => by
    have en := cnt_inj hn1 hc
    subst en
    obtain ⟨es2, e2, n', q1, q2, q3⟩ := st.fin
    cases e2
    refine ⟨n', q1, q2, by omega, fun g' hg => ?_⟩
    have eg := dF1 hg
    subst eg
    exact ⟨h, rfl, sz, by omega, by omega⟩
  have bd := h0.bd (by decide)
  have b1 := bd.a
  have b2 := bd.b
  have b3 := bd.c
  obtain ⟨s1, s2, s3⟩ := h0
  refine q_asg (d := .int (Mth.dscF g)) (by unfold Mth.dscF; walk_at "ev") ?_
  refine q_asgR (er_next (m := 5) rfl (by walk_at "ea") (by decide) (Stt.start hc) n0 (by omega) fun v o1 st v0 v1 => ⟨_, tg_name, ?_⟩)
  obtain ⟨es, rfl, _⟩ := st.fin
  refine s_seq (M := fun e o => e = [.own, .d (dF g), .d (.int (Mth.dscF g)), .d (.int v), .no, .no, .no] ∧ o = some es) (s_if (b := decide (v = 0)) (by walk_at "et") (fun hh => ?_) fun hh => s_next ⟨rfl, rfl⟩) ?_
  · refine s_ret (d := dF ⟨g.a, -g.b, g.c⟩) (by walk_at "ev") ⟨es, rfl, fin st (by decide) ⟨s1, by show (-g.b).natAbs ≤ _; omega, s3⟩ ?_⟩
    simp only [Mth.dscF]
    grind
  rintro _ _ ⟨rfl, rfl⟩
  refine s_seq (M := fun e o => e = [.own, .d (dF g), .d (.int (Mth.dscF g)), .d (.int v), .no, .no, .no] ∧ o = some es) (s_if (b := decide (v = 1)) (by walk_at "et") (fun hh => ?_) fun hh => s_next ⟨rfl, rfl⟩) ?_
  · refine s_ret (d := dF ⟨-g.a, g.b, -g.c⟩) (by walk_at "ev") ⟨es, rfl, fin st (by decide) ⟨by show (-g.a).natAbs ≤ _; omega, s2, by show (-g.c).natAbs ≤ _; omega⟩ ?_⟩
    simp only [Mth.dscF]
    grind
  rintro _ _ ⟨rfl, rfl⟩
  refine s_seq (M := fun e o => ∃ i : Nat, i ≤ 40 ∧ LotI g v n i e o) (s_if (b := decide (v > 2)) (by walk_at "et") (fun hh => ?_) fun hh => s_next ⟨0, by decide, _, _, _, rfl, st⟩) ?_
  · refine s_forR (LotI g v n) ((by walk_at "ea" : EvA K _ _ _ [.int 40]).toR ⟨40, rfl, by decide, by decide, ⟨_, _, _, rfl, st⟩, ?_, fun e o h => ⟨40, by decide, h⟩⟩)
    rintro i _ o hi ⟨x, y, z, rfl, st⟩
    refine q_asgR (er_op (er_op (EvD.toR ev_int ?_)))
    refine er_next (m := 9) rfl (by walk_at "ea") (by decide) st n0 (by omega) fun v1 o1 st1 v10 v11 => ?_
    refine ⟨_, rv_I (mulok_l (Bd.of (by decide))), EvD.toR (d := .int (g.b.fmod 2)) (by walk_at "ev") ⟨.int (2 * v1 + g.b.fmod 2), rv_I0, _, tg_name, ?_⟩⟩
    have g1 := Int.fmod_lt_of_pos g.b (show (0 : Int) < 2 by decide)
    have g2 := Int.fmod_nonneg_of_pos g.b (show (0 : Int) < 2 by decide)
    have hb : (2 * v1 + g.b.fmod 2).natAbs ≤ 17 := by omega
    show SD K (some l) _ [.own, .d (dF g), .d (.int (Mth.dscF g)), .d (.int v), .d (.int (i : Int)), .d (.int (2 * v1 + g.b.fmod 2)), z] o1 _ _ _ _
    generalize 2 * v1 + g.b.fmod 2 = b at *
    refine q_asgR (er_op (EvD.toR ev_int ?_))
    refine er_next (m := 12) rfl (by walk_at "ea") (by decide) st1 n0 (by omega) fun v2 o2 st2 v20 v21 => ⟨.int (1 + v2), rv_I0, _, tg_name, ?_⟩
    have ha : 1 ≤ 1 + v2 ∧ 1 + v2 ≤ 12 := by omega
    show SD K (some l) _ [.own, .d (dF g), .d (.int (Mth.dscF g)), .d (.int v), .d (.int (i : Int)), .d (.int b), .d (.int (1 + v2))] o2 _ _ _ _
    generalize 1 + v2 = a at *
    obtain ⟨es2, rfl, _⟩ := st2.fin
    have bb : Bd 40 b := Bd.of (by omega)
    have ba : Bd 40 a := Bd.of (by omega)
    have sq := mul_le hb hb
    have a0 : 4 * a ≠ 0 := by omega
    have top : EvD K _ [.own, .d (dF g), .d (.int (Mth.dscF g)), .d (.int v), .d (.int (i : Int)), .d (.int b), .d (.int a)] (some es2) (.int (b * b - Mth.dscF g)) := ev_op (ev_op (ev_var (i := 5) rfl) (ev_var (i := 5) rfl) (rv_I (g := fun i j => i * j) (mulok_l (bb.mono (by decide))))) (ev_var (i := 2) rfl) (rv_I0 (g := fun i j => i - j))
    have bot : EvD K _ [.own, .d (dF g), .d (.int (Mth.dscF g)), .d (.int v), .d (.int (i : Int)), .d (.int b), .d (.int a)] (some es2) (.int (4 * a)) := ev_op (ev_int (i := 4)) (ev_var (i := 6) rfl) (rv_I (g := fun i j => i * j) (mulok_l (Bd.of (by decide))))
    refine s_if (b := decide ((b * b - Mth.dscF g).fmod (4 * a) = 0)) (et_test (ev_op (ev_op top bot (rv_I a0)) ev_int rv_eqI)) (fun hh => ?_) fun hh => s_next ⟨_, _, _, rfl, st2.up (by omega)⟩
    have hz := of_decide_eq_true hh
    have hdiv := Int.mul_fdiv_add_fmod (b * b - Mth.dscF g) (4 * a)
    rw [hz, Int.add_zero] at hdiv
    have hcc := (Mth.fdiv_spec (b * b - Mth.dscF g) (4 * a) a0).2.2
    refine s_ret (d := dF ⟨a, b, (b * b - Mth.dscF g).fdiv (4 * a)⟩) (ev_tup (ea_cons (ev_var rfl) (ea_cons (ev_var rfl) (ea_cons (ev_op top bot (rv_I (cfd (n := 45) a0 (Bd.of (by omega)) (by decide)))) ea_nil))) (Nat.le_of_ble_eq_true rfl)) ⟨es2, rfl, fin st2 (by omega) ⟨by show a.natAbs ≤ _; omega, by show b.natAbs ≤ _; omega, ?_⟩ ?_⟩
    · exact Nat.le_trans hcc (by omega)
    · show b * b - 4 * a * (b * b - Mth.dscF g).fdiv (4 * a) = _
      rw [hdiv]
      omega
  rintro _ o ⟨i, hi, x, y, z, rfl, st⟩
  obtain ⟨es2, rfl, _⟩ := st.fin
  exact s_ret (by walk_at "ev") ⟨es2, rfl, fin st (by omega) ⟨s1, s2, s3⟩ rfl⟩


end
end Kx

-- K20
set_option maxHeartbeats 2000000
namespace Kx
open PySem PySem.Spec PyProof.Rows L2
local macro_rules | `(tactic| walk_at "bd") => `(tactic| first | assumption | exact Bd.lit (by decide) | ((with_reducible apply Bd.mul) <;> walk_at "bd") | ((with_reducible apply Bd.add) <;> walk_at "bd") | ((with_reducible apply Bd.sub) <;> walk_at "bd") | ((with_reducible apply Bd.neg); walk_at "bd"))
local macro_rules | `(tactic| walk_at "mul") => `(tactic| first | assumption | exact mulok_l (Bd.mono (by walk_at "bd") (by omega)) | exact mulok_r (Bd.mono (by walk_at "bd") (by omega)) | ((with_reducible apply mulok); (focus walk_at "bd"); (focus walk_at "bd"); omega))
local macro_rules | `(tactic| walk_at "cond") => `(tactic| first | assumption | walk_at "mul" | exact cfd (by first | assumption | omega) (by walk_at "bd") (by omega) | omega | decide)
local macro_rules | `(tactic| walk_at "rv") => `(tactic| first | with_reducible exact rv_I0 | with_reducible exact rv_B0 | with_reducible exact rv_eqI | with_reducible exact rv_neI | with_reducible exact rv_eqF | with_reducible exact rv_neF | with_reducible exact rv_eqS | ((with_reducible apply rv_I); walk_at "cond") | ((with_reducible apply rv_ixT); exact rfl) | ((with_reducible apply rv_ixL); exact rfl) | with_reducible exact rv_isN | with_reducible exact rv_notN | exact rv_cat (Nat.le_of_ble_eq_true rfl))
local macro_rules | `(tactic| walk_at "ev") => `(tactic| first
  | ((with_reducible apply ev_var); exact rfl) | with_reducible exact ev_int | with_reducible exact ev_bl | with_reducible exact ev_str | with_reducible exact ev_non | exact ev_quad (by assumption)
  | ((with_reducible apply ev_op); (focus walk_at "ev"); (focus walk_at "ev"); (focus walk_at "rv"))
  | ((with_reducible apply ev_un); (focus walk_at "ev"); with_reducible exact ru_I)
  | ((with_reducible apply ev_tup); (focus walk_at "ea"); exact Nat.le_of_ble_eq_true rfl)
  | ((with_reducible apply ev_lst); (focus walk_at "ea"); exact Nat.le_of_ble_eq_true rfl)
  | ((with_reducible apply ev_call); (focus walk_at "ea"); (focus walk_at "call"))
  | ((with_reducible apply ev_cb); (focus walk_at "ea"); (focus walk_at "rc"))
  | ((with_reducible apply ev_andV); (focus walk_at "ev"); (intro hh_; (focus walk_at "ev")))
  | ((with_reducible apply ev_orV); (focus walk_at "ev"); (intro hh_; (focus walk_at "ev")))
  | ((with_reducible apply ev_chain); (focus walk_at "ev"); (focus walk_at "ev"); (focus walk_at "rv"); (intro hh_; (focus walk_at "ev")); (intro hh_; (focus walk_at "rv")))
  | ((with_reducible apply ev_notV); walk_at "ev")
  | ((with_reducible apply ev_cut2); walk_at "ev"))
local macro_rules | `(tactic| walk_at "ea") => `(tactic| first | with_reducible exact ea_nil | ((with_reducible apply ea_cons); (focus walk_at "ev"); (focus walk_at "ea")))
local macro_rules | `(tactic| walk_at "rc") => `(tactic| first | with_reducible exact rc_abs | with_reducible exact rc_intI | with_reducible exact rc_intB | with_reducible exact rc_lenL | with_reducible exact rc_tupOf | exact rc_isq (by assumption) (by assumption) | exact rc_isq (by omega) (by omega))
local macro_rules | `(tactic| walk_at "et") => `(tactic| first
  | ((with_reducible apply et_test); walk_at "ev")
  | ((with_reducible apply et_B); walk_at "ev")
  | ((with_reducible apply et_and); (focus walk_at "et"); (intro hh_; (focus walk_at "et")))
  | ((with_reducible apply et_or); (focus walk_at "et"); (intro hh_; (focus walk_at "et")))
  | ((with_reducible apply et_not); walk_at "et"))
local macro_rules | `(tactic| walk_at "tg") => `(tactic| first | with_reducible exact tg_name | ((with_reducible apply tg_tup); (focus walk_at "tgs"); exact rfl) | ((with_reducible apply tg_unl); (focus walk_at "tgs"); exact rfl))
local macro_rules | `(tactic| walk_at "tgs") => `(tactic| first | with_reducible exact tg_nil | ((with_reducible apply tg_cons); (focus walk_at "tg"); (focus walk_at "tgs")))
local macro_rules | `(tactic| walk_at "pre") => `(tactic| first | assumption | walk_at "bd" | exact Bd.mono (by walk_at "bd") (by omega) | omega | decide)

local macro_rules | `(tactic| walk_at "call") => `(tactic| ((with_reducible apply i_worth); all_goals (walk_at "pre")))

local macro_rules | `(tactic| walk_at "call") => `(tactic| ((with_reducible apply i_act); all_goals (walk_at "pre")))

local macro_rules | `(tactic| walk_at "call") => `(tactic| ((with_reducible apply i_discriminant); all_goals (walk_at "pre")))

local macro_rules | `(tactic| walk_at "call") => `(tactic| ((with_reducible apply i_scaled); all_goals (walk_at "pre")))

local macro_rules | `(tactic| walk_at "call") => `(tactic| ((with_reducible apply i_divided); all_goals (walk_at "pre")))

local macro_rules | `(tactic| walk_at "call") => `(tactic| ((with_reducible apply i_multiply); all_goals (walk_at "pre")))

local macro_rules | `(tactic| walk_at "call") => `(tactic| ((with_reducible apply i_determinant); all_goals (walk_at "pre")))

local macro_rules | `(tactic| walk_at "call") => `(tactic| ((with_reducible apply i_inverse); all_goals (walk_at "pre")))

local macro_rules | `(tactic| walk_at "call") => `(tactic| ((with_reducible apply i_floor_root); all_goals (walk_at "pre")))

local macro_rules | `(tactic| walk_at "call") => `(tactic| ((with_reducible apply i_is_square); all_goals (walk_at "pre")))

local macro_rules | `(tactic| walk_at "call") => `(tactic| ((with_reducible apply i_kind); all_goals (walk_at "pre")))

local macro_rules | `(tactic| walk_at "call") => `(tactic| ((with_reducible apply i_is_reduced_definite)))


local macro_rules | `(tactic| walk_at "call") => `(tactic| ((with_reducible apply i_measure); all_goals (walk_at "pre")))

local macro_rules | `(tactic| walk_at "call") => `(tactic| ((with_reducible apply i_content); all_goals (walk_at "pre")))

local macro_rules | `(tactic| walk_at "call") => `(tactic| ((with_reducible apply i_is_reduced_indefinite); all_goals (walk_at "pre")))

local macro_rules | `(tactic| walk_at "call") => `(tactic| ((with_reducible apply i_step_of); all_goals (walk_at "pre")))

local macro_rules | `(tactic| walk_at "call") => `(tactic| ((with_reducible apply i_law_root); all_goals (walk_at "pre")))

local macro_rules | `(tactic| walk_at "call") => `(tactic| ((with_reducible apply i_law_square); all_goals (walk_at "pre")))

local macro_rules | `(tactic| walk_at "call") => `(tactic| ((with_reducible apply i_law_kind); all_goals (walk_at "pre")))

local macro_rules | `(tactic| walk_at "call") => `(tactic| ((with_reducible apply i_law_is_reduced); all_goals (walk_at "pre")))

local macro_rules | `(tactic| walk_at "call") => `(tactic| ((with_reducible apply i_law_neighbour); all_goals (walk_at "pre")))

local macro_rules | `(tactic| walk_at "call") => `(tactic| ((with_reducible apply i_law_worth); all_goals (walk_at "pre")))

local macro_rules | `(tactic| walk_at "call") => `(tactic| ((with_reducible apply i_law_act); all_goals (walk_at "pre")))

local macro_rules | `(tactic| walk_at "call") => `(tactic| ((with_reducible apply i_law_mul); all_goals (walk_at "pre")))

local macro_rules | `(tactic| walk_at "call") => `(tactic| ((with_reducible apply i_law_measure); all_goals (walk_at "pre")))

local macro_rules | `(tactic| walk_at "call") => `(tactic| ((with_reducible apply i_discF); assumption))
local macro_rules | `(tactic| walk_at "cond") => `(tactic| exact (⟨by decide, by decide, by decide⟩ : CPow _ _))

section
variable {K : Fg} {env : List Sl} {o : OS} {ta te : TE} {tt tu : TT} {R : PyData → OS → Prop}
/-- a test told by a relation -/
def EvTR (K : Fg) (tt : TT) (env : List Sl) (o : OS) (R : Bool → OS → Prop) : Prop :=
  ∀ (F0 B : Hp) (l0 : Option Addr) (F H : Hp) (l : Addr) (σ : L2.St), Cf K F0 B l0 F H l o σ env → ∀ Q : Bool → Hp → Prop,
    (∀ (b : Bool) (F2 H2 : Hp) (o2 : OS), R b o2 → Cf K F0 B l0 F2 H2 l o2 σ env → Same F F2 → Q b H2) → tt σ H Q
theorem EvT.toR {b : Bool} {R : Bool → OS → Prop} (h : EvT K tt env o b) (hr : R b o) : EvTR K tt env o R := fun F0 B l0 F H l σ c Q q => h F0 B l0 F H l σ c Q fun F2 H2 c2 e => q b F2 H2 o hr c2 e
theorem etr_test {R : Bool → OS → Prop} (h : EvR K te env o fun d o2 => ∃ b, d = .bool b ∧ R b o2) : EvTR K (tTest te) env o R := fun F0 B l0 F H l σ c Q q => h F0 B l0 F H l σ c _ fun v F2 H2 d o2 ⟨b, e, hR⟩ c2 e2 d2 => by
  subst e
  exact ⟨b, dp_bl d2, q b F2 H2 o2 hR c2 e2⟩
theorem etr_and {R : Bool → OS → Prop} (h : EvTR K tt env o fun b o2 => (b = true → EvTR K tu env o2 R) ∧ (b = false → R false o2)) : EvTR K (tAnd tt tu) env o R := fun F0 B l0 F H l σ c Q q => h F0 B l0 F H l σ c _ fun b F2 H2 o2 ⟨h1, h2⟩ c2 e2 => by
  cases b with
  | true =>
    show tu σ H2 Q
    exact h1 rfl F0 B l0 F2 H2 l σ c2 Q fun b F3 H3 o3 r c3 e3 => q b F3 H3 o3 r c3 (e2.trans e3)
  | false =>
    show Q false H2
    exact q false F2 H2 o2 (h2 rfl) c2 e2
theorem s_ifR {l0 : Option Addr} {t u : TS} {N : PN} {R : PR} {Bk Ct : PN} (h : EvTR K tt env o fun b o2 => (b = true → SD K l0 t env o2 N R Bk Ct) ∧ (b = false → SD K l0 u env o2 N R Bk Ct)) : SD K l0 (tIfS tt t u) env o N R Bk Ct := fun F0 B F H l σ c D k => h F0 B l0 F H l σ c _ fun b F2 H2 o2 ⟨h1, h2⟩ c2 _ => by
  cases b with
  | true =>
    show t D σ H2
    exact h1 rfl F0 B F2 H2 l σ c2 D k
  | false =>
    show u D σ H2
    exact h2 rfl F0 B F2 H2 l σ c2 D k
theorem er_isiT (h : EvR K ta env o fun x o2 => isTupB x = true ∧ R (.bool true) o2) : EvR K (tCB (rIsi K) (tCons ta (tCons (tC (.ty "tuple")) tNil))) env o R := fun F0 B l0 F H l σ c Q q =>
  h F0 B l0 F H l σ c _ fun v F2 H2 x o2 ⟨hx, hR⟩ c2 e2 d2 => by
    cases x with
    | tuple ds =>
      obtain ⟨a, xs, rfl, hs, ha⟩ := dp_tup d2
      have ty : TyX K H2 (.ref a) (.type "tuple") := by
        rcases same_tup c2.fh hs with (k | ⟨ob, k⟩) | ⟨ob, its, n, k, k2, _⟩
        · exact .base (.tup k)
        · exact .fTuple k
        · exact .kTuple k k2
      exact ⟨.ref a, .ty "tuple", .type "tuple", .type "tuple", true, rfl, .ty "tuple", ty, kit_ty (by decide +kernel), q _ F2 H2 _ o2 hR c2 e2 (.bl _)⟩
    | _ => cases hx
end
def oM : Option Mth.M4 → PyData
  | .none => .none
  | some m => dM m
theorem tup_oM (x : Option Mth.M4) : isTupB (oM x) = x.isSome := by cases x <;> rfl
/-- a matrix of determinant s that leads from f to g -/
def leadB (f g : Mth.F3) (x : Option Mth.M4) (s : Int) : Bool := match x with
  | .none => false
  | some m => decide (Mth.detM m = s) && decide ((Mth.actF f m).a = g.a ∧ (Mth.actF f m).b = g.b ∧ (Mth.actF f m).c = g.c)
theorem lead_yes {f g : Mth.F3} {m : Mth.M4} {s : Int} (h : Mth.detM m = s) (k : Mth.actF f m = g) : leadB f g (some m) s = true := by
  subst k
  simp [leadB, h]
def nought : Mth.F3 := ⟨0, 0, 0⟩
theorem act_nought (m : Mth.M4) : Mth.actF nought m = nought := by
  ext <;> simp [Mth.actF, Mth.wvF, nought]
theorem to_nought {f : Mth.F3} {m : Mth.M4} (h : Mth.detM m = 1) (k : Mth.actF f m = nought) : f = nought := by
  rw [← Mth.act_inv (f := f) h, k, act_nought]
theorem sm_nought : Sm nought := ⟨⟨Bd.of (by decide), Bd.of (by decide), Bd.of (by decide)⟩, by decide, by decide⟩
theorem can_nought {C : Mth.F3} (h : IsCan nought C) : C = nought := by
  have d0 : Mth.dscF nought = 0 := rfl
  rcases h with ⟨d, _⟩ | ⟨_, h⟩ | ⟨d, _⟩ | ⟨d, _⟩
  · omega
  · have h2 : C = ⟨if (0 : Int) + 0 < 0 then -(gl [0, 0, 0]) else gl [0, 0, 0], 0, 0⟩ := h
    rw [h2]
    rfl
  · omega
  · omega

section
variable {P : Program} {w : World} {K : Fg} {mg : Str → Option Value} {base : Heap}

def R_law_leads (ds : List PyData) (d : PyData) : Prop := ∃ (f : Mth.F3) (g : Mth.F3) (x : Option Mth.M4) (s : Int), ds = [dF f, dF g, oM x, .int s] ∧ BdF 40 f ∧ (∀ m, x = some m → BdM 240010 m) ∧ d = .bool (leadB f g x s)
theorem i_law_leads {f : Mth.F3} {g : Mth.F3} {x : Option Mth.M4} {s : Int} (hp0 : BdF 40 f) (hp1 : ∀ m, x = some m → BdM 240010 m) : R_law_leads [dF f, dF g, oM x, .int s] (.bool (leadB f g x s)) := ⟨_, _, _, _, rfl, hp0, hp1, rfl⟩

theorem sc_law_leads : FnScope ["_law_form_here", "_law_other_here", "_law_m", "_law_sign"] ["_law_form_here", "_law_other_here", "_law_m", "_law_sign"] (defScope (top 70)) := ⟨rfl, rfl, rfl, by decide +kernel, rfl, by decide +kernel, by decide +kernel⟩
theorem ok_law_leads (T : Md K mg) (D : DefAt K mg "_law_leads" "_law_leads" (top 70) ["_law_form_here", "_law_other_here", "_law_m", "_law_sign"]) (G_law_act : Ok P w K mg base 2 "_law_act" ["_law_form_here", "_law_m"] (spD K R_law_act)) : Ok P w K mg base 3 "_law_leads" ["_law_form_here", "_law_other_here", "_law_m", "_law_sign"] (spD K R_law_leads) := by
  refine ok_pure D sc_law_leads (fun ds d h => by obtain ⟨f, g, x, s, rfl, _⟩ := h; rfl) fun f cdv A outer s H E hr => ?_
  refine ⟨_, (pss_one (ps_ret (pe_and (pe_callB (cr_isiK (K := K) (by exact rfl)) (by rfl) T.isinstance PyProof.Rows.boot_isinstance (pa_cons (pv 2) (pa_cons (pe_bltn (v := .ty "tuple") (by rfl) T.tuple PyProof.Rows.boot_tuple rfl) pa_nil))) (pe_and (pe_cmpR (op_eqDK (K := K) (by exact rfl) hr.units) (pe_op op_sub (pe_op op_mulX (pe_ix (ix_tupK (K := K) (by exact rfl)) (pv 2) pe_int (fun _ _ => rfl)) (pe_ix (ix_tupK (K := K) (by exact rfl)) (pv 2) pe_int (fun _ _ => rfl))) (pe_op op_mulX (pe_ix (ix_tupK (K := K) (by exact rfl)) (pv 2) pe_int (fun _ _ => rfl)) (pe_ix (ix_tupK (K := K) (by exact rfl)) (pv 2) pe_int (fun _ _ => rfl)))) (pv 3) (nomark _)) (pe_one (pe_cmpR (op_eqDK (K := K) (by exact rfl) hr.units) (pe_callO G_law_act (hr.mono (by decide)) (by rfl) (pa_cons (pv 0) (pa_cons (pv 2) pa_nil))) (pv 1) (nomark _))))))), ?_⟩
  rintro _ _ ⟨f, g, x, s, rfl, h0, h1, rfl⟩
  show SD K none _ [.d (dF f), .d (dF g), .d (oM x), .d (.int s)] none _ _ _ _
  cases x with
  | none => exact s_ret (d := .bool (false && (false && false))) (ev_andV (EvD.is (ev_isiT (ev_var rfl) (.inr rfl)) rfl) (fun z => nomatch z)) rfl
  | some m =>
    obtain ⟨c1, c2, c3, c4⟩ := h1 m rfl
    have bm := h1 m rfl
    refine s_ret (d := .bool (true && (decide (Mth.detM m = s) && decide ((Mth.actF f m).a = g.a ∧ (Mth.actF f m).b = g.b ∧ (Mth.actF f m).c = g.c)))) (ev_andV (EvD.is (ev_isiT (ev_var rfl) (.inl rfl)) rfl) fun _ => ev_andV (ev_op (y := .int s) ?_ (ev_var rfl) rv_eqI) fun _ => ev_op (ev_call (ds := [dF f, dM m]) (by walk_at "ea") (i_law_act h0 bm (by omega))) (ev_var rfl) rv_eqF) ?_
    · unfold Mth.detM
      exact ev_op (ev_op (ev_op (ev_var rfl) ev_int (rv_ixT rfl)) (ev_op (ev_var rfl) ev_int (rv_ixT rfl)) (rv_I (mulok c1 c4 (by omega)))) (ev_op (ev_op (ev_var rfl) ev_int (rv_ixT rfl)) (ev_op (ev_var rfl) ev_int (rv_ixT rfl)) (rv_I (mulok c2 c3 (by omega)))) rv_I0
    · rw [Bool.true_and]
      rfl

local macro_rules | `(tactic| walk_at "call") => `(tactic| ((with_reducible apply i_law_leads); all_goals (walk_at "pre")))

def Pre_law_of_nought (ds : List PyData) : Prop := ∃ (g : Mth.F3), ds = [dF g] ∧ Sm g ∧ g ≠ nought
def Post_law_of_nought (ds : List PyData) (d : PyData) : Prop := ∀ (g : Mth.F3), ds = [dF g] → d = .bool true

theorem sc_law_of_nought : FnScope ["_law_form_here", "_law_nought", "_law_told"] ["_law_form_here"] (defScope (top 71)) := ⟨rfl, rfl, rfl, by decide +kernel, rfl, by decide +kernel, by decide +kernel⟩
theorem ok_law_of_nought (T : Md K mg) (D : DefAt K mg "_law_of_nought" "_law_of_nought" (top 71) ["_law_form_here"]) (Gmirrored_change : Ok P w K mg base 8 "mirrored_change" ["form", "other"] (spP K Pre_mirrored_change Post_mirrored_change)) (Gproper_change : Ok P w K mg base 7 "proper_change" ["form", "other"] (spP K Pre_proper_change Post_proper_change)) (G_law_leads : Ok P w K mg base 3 "_law_leads" ["_law_form_here", "_law_other_here", "_law_m", "_law_sign"] (spD K R_law_leads)) (Gcanonical_form : Ok P w K mg base 6 "canonical_form" ["form"] (spP K Pre_canonical_form Post_canonical_form)) : Ok P w K mg base 9 "_law_of_nought" ["_law_form_here"] (spP K Pre_law_of_nought Post_law_of_nought) := by
  refine ok_rel D sc_law_of_nought (fun ds h => by obtain ⟨g, rfl, _⟩ := h; rfl) fun f cdv A outer s H E hr => ?_
  refine ⟨_, (pss_cons (ps_set (i := 1) sc_law_of_nought.nd rfl (Or.inl rfl) (pe_tup (pa_cons pe_int (pa_cons pe_int (pa_cons pe_int pa_nil)))))
      (pss_cons (ps_set (i := 2) sc_law_of_nought.nd rfl (Or.inl rfl) (pe_callO Gcanonical_form (hr.mono (by decide)) (by rfl) (pa_cons (pv 1) pa_nil)))
      (pss_cons (ps_if (PW.pt (pw_or (pt_cmpR (op_neDK (K := K) (by exact rfl) hr.units) (pe_ix (ix_tupK (K := K) (by exact rfl)) (pv 2) pe_int (fun _ _ => rfl)) (pv 1) (nomark _)) (pw_or (pt_not (pt_val (pe_callO G_law_leads (hr.mono (by decide)) (by rfl) (pa_cons (pv 1) (pa_cons (pv 1) (pa_cons (pe_ix (ix_tupK (K := K) (by exact rfl)) (pv 2) pe_int (fun _ _ => rfl)) (pa_cons pe_int pa_nil))))))) (pw_or1 (pt_not (pt_val (pe_callO G_law_leads (hr.mono (by decide)) (by rfl) (pa_cons (pv 1) (pa_cons (pv 1) (pa_cons (pe_callO Gproper_change (hr.mono (by decide)) (by rfl) (pa_cons (pv 1) (pa_cons (pv 1) pa_nil))) (pa_cons pe_int pa_nil))))))))))) (pss_one (ps_ret pe_bl)) pss_nil)
      (pss_cons (ps_if (PW.pt (pw_or (pt_not (pt_val (pe_callO G_law_leads (hr.mono (by decide)) (by rfl) (pa_cons (pv 1) (pa_cons (pv 1) (pa_cons (pe_callO Gmirrored_change (hr.mono (by decide)) (by rfl) (pa_cons (pv 1) (pa_cons (pv 1) pa_nil))) (pa_cons (pe_un un_neg pe_int) pa_nil))))))) (pw_or1 (pt_cmpR op_notN (pe_callO Gproper_change (hr.mono (by decide)) (by rfl) (pa_cons (pv 0) (pa_cons (pv 1) pa_nil))) pe_non (nomark _))))) (pss_one (ps_ret pe_bl)) pss_nil)
      (pss_one (ps_ret (pe_and (pe_cmpR op_isN (pe_callO Gproper_change (hr.mono (by decide)) (by rfl) (pa_cons (pv 1) (pa_cons (pv 0) pa_nil))) pe_non (nomark _)) (pe_one (pe_cmpR op_isN (pe_callO Gmirrored_change (hr.mono (by decide)) (by rfl) (pa_cons (pv 1) (pa_cons (pv 0) pa_nil))) pe_non (nomark _)))))))))), ?_⟩
  rintro _ ⟨g, rfl, h0, h1⟩
  show SD K none _ [.d (dF g), .no, .no] none _ _ _ _
  have b0 := sm_nought.bd
  have none : ∀ m : Mth.M4, (Option.none : Option Mth.M4) = some m → BdM 240010 m := fun m z => nomatch z
  have one : ∀ {k : Nat} (m : Mth.M4), BdM k m → k ≤ 240010 → ∀ m', some m = some m' → BdM 240010 m' := fun m bm hk m' e => by
    cases e
    exact bm.mono hk
  refine q_asg (d := dF nought) (by unfold nought; walk_at "ev") ?_
  refine q_asgR (er_callP' (ds := [dF nought]) (by walk_at "ea") ⟨nought, rfl, sm_nought⟩ fun d hd => ⟨_, tg_name, ?_⟩)
  obtain ⟨C, m, rfl, a1, a2, a3, a4⟩ := hd nought rfl
  have eC := can_nought a1
  subst eC
  show SD K _ _ [.d (dF g), .d (dF nought), .d (.tuple [dF nought, dM m])] _ _ _ _ _
  have pn : ∀ {ta : TA} {R : PyData → OS → Prop} {o : OS}, EvA K ta [.d (dF g), .d (dF nought), .d (.tuple [dF nought, dM m])] o [dF nought, dF nought] → (∀ m, Mth.detM m = 1 → Mth.actF nought m = nought → BdM 240001 m → R (oM (some m)) o) → EvR K (tCall (spP K Pre_proper_change Post_proper_change) [] E0 ta) [.d (dF g), .d (dF nought), .d (.tuple [dF nought, dM m])] o R := fun h k => er_callP' h ⟨_, _, rfl, sm_nought, sm_nought⟩ fun d hd => by
    obtain ⟨C1, C2, k1, k2, ⟨e, m, rfl, k3, k4, k5⟩ | ⟨e, rfl⟩⟩ := hd _ _ rfl
    · exact k m k3 k4 k5
    · exact absurd ((can_nought k1).trans (can_nought k2).symm) e
  have mn : ∀ {ta : TA} {R : PyData → OS → Prop} {o : OS}, EvA K ta [.d (dF g), .d (dF nought), .d (.tuple [dF nought, dM m])] o [dF nought, dF nought] → (∀ m, Mth.detM m = -1 → Mth.actF nought m = nought → BdM 240010 m → R (oM (some m)) o) → EvR K (tCall (spP K Pre_mirrored_change Post_mirrored_change) [] E0 ta) [.d (dF g), .d (dF nought), .d (.tuple [dF nought, dM m])] o R := fun h k => er_callP' h ⟨_, _, rfl, sm_nought, sm_nought⟩ fun d hd => by
    obtain ⟨C1, C2, k1, k2, ⟨e, m, rfl, k3, k4, k5⟩ | ⟨e, rfl⟩⟩ := hd _ _ rfl
    · exact k m k3 k4 k5
    · exact absurd ((can_nought (show IsCan nought C1 from k1)).trans (can_nought k2).symm) e
  refine q_skip (EvT.is (b := false || (false || false)) (et_or (EvT.is (et_test (ev_op (ev_op (ev_var rfl) ev_int (rv_ixT (z := dF nought) rfl)) (ev_var rfl) rv_neF)) (by decide)) fun _ => et_or (EvT.is (b := !true) (et_not (et_B (EvD.is (ev_call (ds := [dF nought, dF nought, oM (some m), .int 1]) (ea_cons (ev_var rfl) (ea_cons (ev_var rfl) (ea_cons (ev_op (ev_var rfl) ev_int (rv_ixT rfl)) (ea_cons ev_int ea_nil)))) (i_law_leads b0 (one m a4 (by decide)))) (congrArg _ (lead_yes a3 a2))))) rfl) fun _ => EvT.is (b := !true) (et_not (et_B (EvR.toD ?_))) rfl) rfl) ?_
  · refine er_call (ear_cons (EvD.toR (ev_var rfl) (ear_cons (EvD.toR (ev_var rfl) (ear_cons (pn (by walk_at "ea") fun m k3 k4 k5 => ear_cons (EvD.toR ev_int (ear_nil ⟨_, i_law_leads b0 (one m k5 (by decide)), ?_⟩))))))))
    exact ⟨congrArg _ (lead_yes k3 k4), rfl⟩
  refine q_skip (EvT.is (b := false || false) (et_or (EvT.is (b := !true) (et_not (et_B (EvR.toD ?_))) rfl) fun _ => et_test (EvR.toD ?_)) rfl) ?_
  · refine er_call (ear_cons (EvD.toR (ev_var rfl) (ear_cons (EvD.toR (ev_var rfl) (ear_cons (mn (by walk_at "ea") fun m k3 k4 k5 => ear_cons (EvD.toR (ev_un ev_int ru_I) (ear_nil ⟨_, i_law_leads b0 (one m k5 (by decide)), ?_⟩))))))))
    exact ⟨congrArg _ (lead_yes k3 k4), rfl⟩
  · refine er_op (er_callP' (ds := [dF g, dF nought]) (by walk_at "ea") ⟨_, _, rfl, h0, sm_nought⟩ fun d hd => ?_)
    obtain ⟨C1, C2, k1, k2, ⟨e, m, rfl, k3, k4, k5⟩ | ⟨e, rfl⟩⟩ := hd _ _ rfl
    · exact absurd (to_nought k3 k4) h1
    · exact EvD.toR ev_non ⟨_, rv_notN, rfl, rfl⟩
  refine s_ret (d := .bool (true && true)) (ev_andV (EvR.toD ?_) fun _ => EvR.toD ?_) fun _ _ => rfl
  · refine er_op (er_callP' (ds := [dF nought, dF g]) (by walk_at "ea") ⟨_, _, rfl, sm_nought, h0⟩ fun d hd => ?_)
    obtain ⟨C1, C2, k1, k2, ⟨e, m, rfl, k3, k4, k5⟩ | ⟨e, rfl⟩⟩ := hd _ _ rfl
    · rw [act_nought] at k4
      exact absurd k4.symm h1
    · exact EvD.toR ev_non ⟨_, rv_isN, rfl, rfl⟩
  · refine er_op (er_callP' (ds := [dF nought, dF g]) (by walk_at "ea") ⟨_, _, rfl, sm_nought, h0⟩ fun d hd => ?_)
    obtain ⟨C1, C2, k1, k2, ⟨e, m, rfl, k3, k4, k5⟩ | ⟨e, rfl⟩⟩ := hd _ _ rfl
    · rw [act_nought] at k4
      exact absurd k4.symm h1
    · exact EvD.toR ev_non ⟨_, rv_isN, rfl, rfl⟩


end
end Kx

-- K21
set_option maxHeartbeats 2000000
namespace Kx
open PySem PySem.Spec PyProof.Rows L2
local macro_rules | `(tactic| walk_at "bd") => `(tactic| first | assumption | exact Bd.lit (by decide) | ((with_reducible apply Bd.mul) <;> walk_at "bd") | ((with_reducible apply Bd.add) <;> walk_at "bd") | ((with_reducible apply Bd.sub) <;> walk_at "bd") | ((with_reducible apply Bd.neg); walk_at "bd"))
local macro_rules | `(tactic| walk_at "mul") => `(tactic| first | assumption | exact mulok_l (Bd.mono (by walk_at "bd") (by omega)) | exact mulok_r (Bd.mono (by walk_at "bd") (by omega)) | ((with_reducible apply mulok); (focus walk_at "bd"); (focus walk_at "bd"); omega))
local macro_rules | `(tactic| walk_at "cond") => `(tactic| first | assumption | walk_at "mul" | exact cfd (by first | assumption | omega) (by walk_at "bd") (by omega) | omega | decide)
local macro_rules | `(tactic| walk_at "rv") => `(tactic| first | with_reducible exact rv_I0 | with_reducible exact rv_B0 | with_reducible exact rv_eqI | with_reducible exact rv_neI | with_reducible exact rv_eqF | with_reducible exact rv_neF | with_reducible exact rv_eqS | ((with_reducible apply rv_I); walk_at "cond") | ((with_reducible apply rv_ixT); exact rfl) | ((with_reducible apply rv_ixL); exact rfl) | with_reducible exact rv_isN | with_reducible exact rv_notN | exact rv_cat (Nat.le_of_ble_eq_true rfl))
local macro_rules | `(tactic| walk_at "ev") => `(tactic| first
  | ((with_reducible apply ev_var); exact rfl) | with_reducible exact ev_int | with_reducible exact ev_bl | with_reducible exact ev_str | with_reducible exact ev_non | exact ev_quad (by assumption)
  | ((with_reducible apply ev_op); (focus walk_at "ev"); (focus walk_at "ev"); (focus walk_at "rv"))
  | ((with_reducible apply ev_un); (focus walk_at "ev"); with_reducible exact ru_I)
  | ((with_reducible apply ev_tup); (focus walk_at "ea"); exact Nat.le_of_ble_eq_true rfl)
  | ((with_reducible apply ev_lst); (focus walk_at "ea"); exact Nat.le_of_ble_eq_true rfl)
  | ((with_reducible apply ev_call); (focus walk_at "ea"); (focus walk_at "call"))
  | ((with_reducible apply ev_cb); (focus walk_at "ea"); (focus walk_at "rc"))
  | ((with_reducible apply ev_andV); (focus walk_at "ev"); (intro hh_; (focus walk_at "ev")))
  | ((with_reducible apply ev_orV); (focus walk_at "ev"); (intro hh_; (focus walk_at "ev")))
  | ((with_reducible apply ev_chain); (focus walk_at "ev"); (focus walk_at "ev"); (focus walk_at "rv"); (intro hh_; (focus walk_at "ev")); (intro hh_; (focus walk_at "rv")))
  | ((with_reducible apply ev_notV); walk_at "ev")
  | ((with_reducible apply ev_cut2); walk_at "ev"))
local macro_rules | `(tactic| walk_at "ea") => `(tactic| first | with_reducible exact ea_nil | ((with_reducible apply ea_cons); (focus walk_at "ev"); (focus walk_at "ea")))
local macro_rules | `(tactic| walk_at "rc") => `(tactic| first | with_reducible exact rc_abs | with_reducible exact rc_intI | with_reducible exact rc_intB | with_reducible exact rc_lenL | with_reducible exact rc_tupOf | exact rc_isq (by assumption) (by assumption) | exact rc_isq (by omega) (by omega))
local macro_rules | `(tactic| walk_at "et") => `(tactic| first
  | ((with_reducible apply et_test); walk_at "ev")
  | ((with_reducible apply et_B); walk_at "ev")
  | ((with_reducible apply et_and); (focus walk_at "et"); (intro hh_; (focus walk_at "et")))
  | ((with_reducible apply et_or); (focus walk_at "et"); (intro hh_; (focus walk_at "et")))
  | ((with_reducible apply et_not); walk_at "et"))
local macro_rules | `(tactic| walk_at "tg") => `(tactic| first | with_reducible exact tg_name | ((with_reducible apply tg_tup); (focus walk_at "tgs"); exact rfl) | ((with_reducible apply tg_unl); (focus walk_at "tgs"); exact rfl))
local macro_rules | `(tactic| walk_at "tgs") => `(tactic| first | with_reducible exact tg_nil | ((with_reducible apply tg_cons); (focus walk_at "tg"); (focus walk_at "tgs")))
local macro_rules | `(tactic| walk_at "pre") => `(tactic| first | assumption | walk_at "bd" | exact Bd.mono (by walk_at "bd") (by omega) | omega | decide)

local macro_rules | `(tactic| walk_at "call") => `(tactic| ((with_reducible apply i_worth); all_goals (walk_at "pre")))

local macro_rules | `(tactic| walk_at "call") => `(tactic| ((with_reducible apply i_act); all_goals (walk_at "pre")))

local macro_rules | `(tactic| walk_at "call") => `(tactic| ((with_reducible apply i_discriminant); all_goals (walk_at "pre")))

local macro_rules | `(tactic| walk_at "call") => `(tactic| ((with_reducible apply i_scaled); all_goals (walk_at "pre")))

local macro_rules | `(tactic| walk_at "call") => `(tactic| ((with_reducible apply i_divided); all_goals (walk_at "pre")))

local macro_rules | `(tactic| walk_at "call") => `(tactic| ((with_reducible apply i_multiply); all_goals (walk_at "pre")))

local macro_rules | `(tactic| walk_at "call") => `(tactic| ((with_reducible apply i_determinant); all_goals (walk_at "pre")))

local macro_rules | `(tactic| walk_at "call") => `(tactic| ((with_reducible apply i_inverse); all_goals (walk_at "pre")))

local macro_rules | `(tactic| walk_at "call") => `(tactic| ((with_reducible apply i_floor_root); all_goals (walk_at "pre")))

local macro_rules | `(tactic| walk_at "call") => `(tactic| ((with_reducible apply i_is_square); all_goals (walk_at "pre")))

local macro_rules | `(tactic| walk_at "call") => `(tactic| ((with_reducible apply i_kind); all_goals (walk_at "pre")))

local macro_rules | `(tactic| walk_at "call") => `(tactic| ((with_reducible apply i_is_reduced_definite)))


local macro_rules | `(tactic| walk_at "call") => `(tactic| ((with_reducible apply i_measure); all_goals (walk_at "pre")))

local macro_rules | `(tactic| walk_at "call") => `(tactic| ((with_reducible apply i_content); all_goals (walk_at "pre")))

local macro_rules | `(tactic| walk_at "call") => `(tactic| ((with_reducible apply i_is_reduced_indefinite); all_goals (walk_at "pre")))

local macro_rules | `(tactic| walk_at "call") => `(tactic| ((with_reducible apply i_step_of); all_goals (walk_at "pre")))

local macro_rules | `(tactic| walk_at "call") => `(tactic| ((with_reducible apply i_law_root); all_goals (walk_at "pre")))

local macro_rules | `(tactic| walk_at "call") => `(tactic| ((with_reducible apply i_law_square); all_goals (walk_at "pre")))

local macro_rules | `(tactic| walk_at "call") => `(tactic| ((with_reducible apply i_law_kind); all_goals (walk_at "pre")))

local macro_rules | `(tactic| walk_at "call") => `(tactic| ((with_reducible apply i_law_is_reduced); all_goals (walk_at "pre")))

local macro_rules | `(tactic| walk_at "call") => `(tactic| ((with_reducible apply i_law_neighbour); all_goals (walk_at "pre")))

local macro_rules | `(tactic| walk_at "call") => `(tactic| ((with_reducible apply i_law_worth); all_goals (walk_at "pre")))

local macro_rules | `(tactic| walk_at "call") => `(tactic| ((with_reducible apply i_law_act); all_goals (walk_at "pre")))

local macro_rules | `(tactic| walk_at "call") => `(tactic| ((with_reducible apply i_law_mul); all_goals (walk_at "pre")))

local macro_rules | `(tactic| walk_at "call") => `(tactic| ((with_reducible apply i_law_measure); all_goals (walk_at "pre")))

local macro_rules | `(tactic| walk_at "call") => `(tactic| ((with_reducible apply i_law_leads); all_goals (walk_at "pre")))

local macro_rules | `(tactic| walk_at "call") => `(tactic| ((with_reducible apply i_discF); assumption))
local macro_rules | `(tactic| walk_at "cond") => `(tactic| exact (⟨by decide, by decide, by decide⟩ : CPow _ _))

section
variable {K : Fg} {env : List Sl} {o : OS} {R : PyData → OS → Prop} {i : Nat} {b : Int} {tr ta : TA}
theorem er_form (hi : env[i]? = some .own) (h : EvAR K tr env o fun ds o2 => ∃ s b, ds = [.str s] ∧ s ∈ kinds ∧ Stt 0 b o2 ∧ b ≤ 70000 ∧ ∀ g o3, Drawn g → Stt 0 (b + 160) o3 → R (dF g) o3) : EvR K (tCall (spS K Pre_law_form Post_law_form) [] E0 (tCons (tVar i) tr)) env o R := by
  refine er_callS hi fun F0 B l0 F H l σ c Q q => h F0 B l0 F H l σ c Q fun vs F2 H2 ds o2 ⟨s, b, e, hs, ⟨cs, n, eo, hc, g1, g2⟩, hb, k⟩ c2 e2 d2 => q vs F2 H2 ds o2 ⟨cs, eo, ⟨s, n, e, hs, hc, g1, by omega⟩, fun d es hp => ?_⟩ c2 e2 d2
  obtain ⟨n', q1, q2, q3, q4⟩ := hp n hc
  obtain ⟨g, rfl, dr⟩ := q4 s e
  exact k g _ dr ⟨es, n', rfl, q1, by omega, by omega⟩
theorem er_change (hi : env[i]? = some .own) (h : EvAR K tr env o fun ds o2 => ∃ k b, ds = [.int k] ∧ 0 ≤ k ∧ k ≤ 4 ∧ Stt 0 b o2 ∧ b ≤ 80000 ∧ ∀ m o3, Mth.detM m = 1 → Mx 81 m → Stt 0 (b + 10) o3 → R (dM m) o3) : EvR K (tCall (spS K Pre_law_change Post_law_change) [] E0 (tCons (tVar i) tr)) env o R := by
  refine er_callS hi fun F0 B l0 F H l σ c Q q => h F0 B l0 F H l σ c Q fun vs F2 H2 ds o2 ⟨s, b, e, h0, h4, ⟨cs, n, eo, hc, g1, g2⟩, hb, k⟩ c2 e2 d2 => q vs F2 H2 ds o2 ⟨cs, eo, ⟨s, n, e, h0, h4, hc, g1, by omega⟩, fun d es hp => ?_⟩ c2 e2 d2
  obtain ⟨n', q1, q2, q3, q4⟩ := hp n hc
  obtain ⟨m, rfl, dm, bm⟩ := q4 s e
  exact k m _ dm bm ⟨es, n', rfl, q1, by omega, by omega⟩
theorem er_other (hi : env[i]? = some .own) (h : EvAR K tr env o fun ds o2 => ∃ g b, ds = [dF g] ∧ Sz 2200000 g ∧ -1300 ≤ Mth.dscF g ∧ Mth.dscF g ≤ 1300 ∧ Stt 0 b o2 ∧ b ≤ 80000 ∧ ∀ h o3, Sz 2200000 h → -1300 ≤ Mth.dscF h → Mth.dscF h ≤ 1300 → Stt 0 (b + 90) o3 → R (dF h) o3) : EvR K (tCall (spS K Pre_law_other Post_law_other) [] E0 (tCons (tVar i) tr)) env o R := by
  refine er_callS hi fun F0 B l0 F H l σ c Q q => h F0 B l0 F H l σ c Q fun vs F2 H2 ds o2 ⟨g, b, e, h0, h1, h2, ⟨cs, n, eo, hc, g1, g2⟩, hb, k⟩ c2 e2 d2 => q vs F2 H2 ds o2 ⟨cs, eo, ⟨g, n, e, h0, h1, h2, hc, g1, by omega⟩, fun d es hp => ?_⟩ c2 e2 d2
  obtain ⟨n', q1, q2, q3, q4⟩ := hp n hc
  obtain ⟨m, rfl, z1, z2, z3⟩ := q4 g e
  exact k m _ z1 z2 z3 ⟨es, n', rfl, q1, by omega, by omega⟩
theorem ev_can {g C : Mth.F3} {E : XK} (h : EvA K ta env o [dF g]) (sm : Sm g) (hC : IsCan g C) : EvD K (tCall (spP K Pre_law_canonical Post_law_canonical) [] E ta) env o (dF C) := EvR.toD (er_callP' h ⟨g, rfl, sm⟩ fun d hd => by
  obtain ⟨C', rfl, h'⟩ := hd g rfl
  rw [can_one sm.hi h' hC]
  exact ⟨rfl, rfl⟩)
end
theorem ok_relF {P : Program} {w : World} {K : Fg} {mg : Str → Option Value} {base : Heap} {n : Str} {st : Stmt} {N ps : List Str} {k : Nat} {Pre : List PyData → Prop} {Post : List PyData → PyData → Prop} {f : Addr} {fd : FuncData} (F : FunD K n n (defArgs st) (defBody st) (defScope st) [] [] f fd) (sc : FnScope N ps (defScope st)) (len : ∀ ds, Pre ds → ds.length = ps.length)
    (body : ∀ (f : Addr) (cdv : Value) (A : Around) (outer : List Env) (s : Shared) (H : Hp) (E : XK), Room k (CxD P w K mg base N n st f cdv A outer s H E).A →
      ∃ t, PSs (CxD P w K mg base N n st f cdv A outer s H E) (defBody st) t ∧ ∀ ds, Pre ds → SD K none t (envOf N ds) none (fun _ _ => False) (fun d' _ => Post ds d') (fun _ _ => False) (fun _ _ => False)) : FnOk P w K mg base CX0 (k + 1) f fd ps (spP K Pre Post) := by
  refine F.ok sc (fun vs H Q E ⟨G, ds, _, h1, h2, _⟩ => by rw [dpa_len h1]; exact len ds h2) fun cdv A outer s H vs Q E hr ⟨G, ds, hs, hd, hR, hq⟩ => ?_
  obtain ⟨t, ht, h⟩ := body f cdv A outer s H E hr
  exact ⟨t, ht.nox, h ds hR G H G H 0 _ ⟨Same.refl _, Same.refl _, hs, fun a u e => .inl e, sat_start hd, fun _ e => (nomatch e), fun _ e => (nomatch e)⟩ _ ⟨fun _ _ _ _ _ _ z => z.elim, fun v F2 H2 l σ e d' o' hp c dv => hq v F2 H2 d' hp c.bh c.ff c.fh c.nw dv, fun _ _ _ _ _ _ z => z.elim, fun _ _ _ _ _ _ z => z.elim⟩⟩
theorem name_at {v : Int} (v0 : 0 ≤ v) (v1 : v < 6) : ∃ s, atI [PyData.str "definite", .str "indefinite", .str "definite", .str "indefinite", .str "split", .str "flat"] v = some (.str s) ∧ s ∈ kinds := by
  have hv : v = 0 ∨ v = 1 ∨ v = 2 ∨ v = 3 ∨ v = 4 ∨ v = 5 := by omega
  rcases hv with rfl | rfl | rfl | rfl | rfl | rfl
  · exact ⟨"definite", rfl, by simp [kinds]⟩
  · exact ⟨"indefinite", rfl, by simp [kinds]⟩
  · exact ⟨"definite", rfl, by simp [kinds]⟩
  · exact ⟨"indefinite", rfl, by simp [kinds]⟩
  · exact ⟨"split", rfl, by simp [kinds]⟩
  · exact ⟨"flat", rfl, by simp [kinds]⟩
theorem Sz.act {A k : Nat} {f : Mth.F3} {m : Mth.M4} (h : Sz A f) (hm : Mx k m) : Sz (6 * (A * k * k)) (Mth.actF f m) := ⟨wv_le (m := m) h hm.p hm.r, am_le h hm, wv_le (m := m) h hm.q hm.s⟩
theorem sz_sm {A : Nat} {g : Mth.F3} (h : Sz A g) (hA : A < 2 ^ 40) (h0 : -1300 ≤ Mth.dscF g) (h1 : Mth.dscF g ≤ 1300) : Sm g := ⟨h.bd hA, h0, h1⟩
theorem mir_mir (f : Mth.F3) : mirF (mirF f) = f := by
  ext <;> simp [mirF]

section
variable {P : Program} {w : World} {K : Fg} {mg : Str → Option Value} {base : Heap}

def Pre_law (ds : List PyData) : Prop := ∃ (xs : List Int), ds = [.list (xs.map .int)]
def Post_law (ds : List PyData) (d : PyData) : Prop := ∀ (xs : List Int), ds = [.list (xs.map .int)] → d = .bool true

theorem sc_law : FnScope ["_law_script", "_law_state_here", "_law_names", "_law_form_here", "_law_other_here", "_law_first", "_law_m", "_law_told"] ["_law_script"] (defScope (top 72)) := ⟨rfl, rfl, rfl, by decide +kernel, rfl, by decide +kernel, by decide +kernel⟩
theorem ok_law (T : Md K mg) {f : Addr} {fd : FuncData} (F : FunD K "law" "law" (defArgs (top 72)) (defBody (top 72)) (defScope (top 72)) [] [] f fd) (G_law_canonical : Ok P w K mg base 4 "_law_canonical" ["_law_form_here"] (spP K Pre_law_canonical Post_law_canonical)) (G_law_leads : Ok P w K mg base 3 "_law_leads" ["_law_form_here", "_law_other_here", "_law_m", "_law_sign"] (spD K R_law_leads)) (Gmirrored_change : Ok P w K mg base 8 "mirrored_change" ["form", "other"] (spP K Pre_mirrored_change Post_mirrored_change)) (Gproper_change : Ok P w K mg base 7 "proper_change" ["form", "other"] (spP K Pre_proper_change Post_proper_change)) (Gcanonical_form : Ok P w K mg base 6 "canonical_form" ["form"] (spP K Pre_canonical_form Post_canonical_form)) (G_law_of_nought : Ok P w K mg base 9 "_law_of_nought" ["_law_form_here"] (spP K Pre_law_of_nought Post_law_of_nought)) (G_law_next : Ok P w K mg base 1 "_law_next" ["_law_state_here", "_law_many"] (spS K Pre_law_next Post_law_next)) (G_law_form : Ok P w K mg base 4 "_law_form" ["_law_state_here", "_law_sort"] (spS K Pre_law_form Post_law_form)) (G_law_act : Ok P w K mg base 2 "_law_act" ["_law_form_here", "_law_m"] (spD K R_law_act)) (G_law_change : Ok P w K mg base 2 "_law_change" ["_law_state_here", "_law_many"] (spS K Pre_law_change Post_law_change)) (G_law_other : Ok P w K mg base 2 "_law_other" ["_law_state_here", "_law_form_here"] (spS K Pre_law_other Post_law_other)) (G_law_state : Ok P w K mg base 2 "_law_state" ["_law_script"] (spO K Pre_law_state Post_law_state)) : FnOk P w K mg base CX0 10 f fd ["_law_script"] (spP K Pre_law Post_law) := by
  refine ok_relF F sc_law (fun ds h => by obtain ⟨xs, rfl, _⟩ := h; rfl) fun f cdv A outer s H E hr => ?_
  refine ⟨_, (pss_cons (ps_set (i := 1) sc_law.nd rfl (Or.inl rfl) (pe_callO G_law_state (hr.mono (by decide)) (by rfl) (pa_cons (pv 0) pa_nil)))
      (pss_cons (ps_set (i := 2) sc_law.nd rfl (Or.inl rfl) (pe_lst (pa_cons pe_str (pa_cons pe_str (pa_cons pe_str (pa_cons pe_str (pa_cons pe_str (pa_cons pe_str pa_nil))))))))
      (pss_cons (ps_set (i := 3) sc_law.nd rfl (Or.inl rfl) (pe_callO G_law_act (hr.mono (by decide)) (by rfl) (pa_cons (pe_callO G_law_form (hr.mono (by decide)) (by rfl) (pa_cons (pv 1) (pa_cons (pe_ix (ix_listK (K := K) (by exact rfl)) (pv 2) (pe_callO G_law_next (hr.mono (by decide)) (by rfl) (pa_cons (pv 1) (pa_cons pe_int pa_nil))) (fun _ _ => rfl)) pa_nil))) (pa_cons (pe_callO G_law_change (hr.mono (by decide)) (by rfl) (pa_cons (pv 1) (pa_cons pe_int pa_nil))) pa_nil))))
      (pss_cons (ps_set (i := 4) sc_law.nd rfl (Or.inl rfl) (pe_callO G_law_act (hr.mono (by decide)) (by rfl) (pa_cons (pe_callO G_law_other (hr.mono (by decide)) (by rfl) (pa_cons (pv 1) (pa_cons (pv 3) pa_nil))) (pa_cons (pe_callO G_law_change (hr.mono (by decide)) (by rfl) (pa_cons (pv 1) (pa_cons pe_int pa_nil))) pa_nil))))
      (pss_cons (ps_if (pt_cmpR (op_eqDK (K := K) (by exact rfl) hr.units) (pe_callO G_law_next (hr.mono (by decide)) (by rfl) (pa_cons (pv 1) (pa_cons pe_int pa_nil))) pe_int (nomark _)) (pss_one (ps_set (i := 4) sc_law.nd rfl (Or.inl rfl) (pe_callO G_law_form (hr.mono (by decide)) (by rfl) (pa_cons (pv 1) (pa_cons (pe_ix (ix_listK (K := K) (by exact rfl)) (pv 2) (pe_callO G_law_next (hr.mono (by decide)) (by rfl) (pa_cons (pv 1) (pa_cons pe_int pa_nil))) (fun _ _ => rfl)) pa_nil))))) pss_nil)
      (pss_cons (ps_if (PW.pt (pw_and (pt_cmpR (op_eqDK (K := K) (by exact rfl) hr.units) (pe_callO G_law_next (hr.mono (by decide)) (by rfl) (pa_cons (pv 1) (pa_cons pe_int pa_nil))) pe_int (nomark _)) (pw_and1 (pt_not (pt_val (pe_callO G_law_of_nought (hr.mono (by decide)) (by rfl) (pa_cons (pv 3) pa_nil))))))) (pss_one (ps_ret pe_bl)) pss_nil)
      (pss_cons (ps_asg (pe_callO Gcanonical_form (hr.mono (by decide)) (by rfl) (pa_cons (pv 3) pa_nil)) (pg_tupK (K := K) 2 (by exact rfl) rfl (pgs_cons (pg_name (i := 5) sc_law.nd rfl (Or.inl rfl)) (pgs_cons (pg_name (i := 6) sc_law.nd rfl (Or.inl rfl)) pgs_nil)) (by rfl) (by rfl)))
      (pss_cons (ps_if (PW.pt (pw_or (pt_not (pt_val (pe_callB (cr_isiK (K := K) (by exact rfl)) (by rfl) T.isinstance PyProof.Rows.boot_isinstance (pa_cons (pe_callO Gcanonical_form (hr.mono (by decide)) (by rfl) (pa_cons (pv 3) pa_nil)) (pa_cons (pe_bltn (v := .ty "tuple") (by rfl) T.tuple PyProof.Rows.boot_tuple rfl) pa_nil))))) (pw_or (pt_cmpR (op_neDK (K := K) (by exact rfl) hr.units) (pv 5) (pe_callO G_law_canonical (hr.mono (by decide)) (by rfl) (pa_cons (pv 3) pa_nil)) (nomark _)) (pw_or1 (pt_not (pt_val (pe_callO G_law_leads (hr.mono (by decide)) (by rfl) (pa_cons (pv 3) (pa_cons (pv 5) (pa_cons (pv 6) (pa_cons pe_int pa_nil))))))))))) (pss_one (ps_ret pe_bl)) pss_nil)
      (pss_cons (ps_set (i := 7) sc_law.nd rfl (Or.inl rfl) (pe_callO Gproper_change (hr.mono (by decide)) (by rfl) (pa_cons (pv 3) (pa_cons (pv 4) pa_nil))))
      (pss_cons (ps_if (pt_cmpR (op_eqDK (K := K) (by exact rfl) hr.units) (pv 5) (pe_callO G_law_canonical (hr.mono (by decide)) (by rfl) (pa_cons (pv 4) pa_nil)) (nomark _)) (pss_one (ps_if (pt_not (pt_val (pe_callO G_law_leads (hr.mono (by decide)) (by rfl) (pa_cons (pv 3) (pa_cons (pv 4) (pa_cons (pv 7) (pa_cons pe_int pa_nil))))))) (pss_one (ps_ret pe_bl)) pss_nil)) (pss_one (ps_if (pt_cmpR op_notN (pv 7) pe_non (nomark _)) (pss_one (ps_ret pe_bl)) pss_nil)))
      (pss_cons (ps_set (i := 7) sc_law.nd rfl (Or.inl rfl) (pe_callO Gmirrored_change (hr.mono (by decide)) (by rfl) (pa_cons (pv 3) (pa_cons (pv 4) pa_nil))))
      (pss_cons (ps_if (pt_cmpR (op_eqDK (K := K) (by exact rfl) hr.units) (pe_callO G_law_canonical (hr.mono (by decide)) (by rfl) (pa_cons (pe_tup (pa_cons (pe_ix (ix_tupK (K := K) (by exact rfl)) (pv 3) pe_int (fun _ _ => rfl)) (pa_cons (pe_un un_neg (pe_ix (ix_tupK (K := K) (by exact rfl)) (pv 3) pe_int (fun _ _ => rfl))) (pa_cons (pe_ix (ix_tupK (K := K) (by exact rfl)) (pv 3) pe_int (fun _ _ => rfl)) pa_nil)))) pa_nil)) (pe_callO G_law_canonical (hr.mono (by decide)) (by rfl) (pa_cons (pv 4) pa_nil)) (nomark _)) (pss_one (ps_ret (pe_callO G_law_leads (hr.mono (by decide)) (by rfl) (pa_cons (pv 3) (pa_cons (pv 4) (pa_cons (pv 7) (pa_cons (pe_un un_neg pe_int) pa_nil))))))) pss_nil)
      (pss_one (ps_ret (pe_cmpR op_isN (pv 7) pe_non (nomark _)))))))))))))))), ?_⟩
  rintro _ ⟨xs, rfl⟩
  show SD K none _ [.d (.list (xs.map .int)), .no, .no, .no, .no, .no, .no, .no] none _ _ _ _
  let nm : List PyData := [.str "definite", .str "indefinite", .str "definite", .str "indefinite", .str "split", .str "flat"]
  refine s_seq (M := fun e o => e = [.d (.list (xs.map .int)), .own, .no, .no, .no, .no, .no, .no] ∧ Stt 0 0 o) (s_setO rfl (by walk_at "ea") ⟨xs, rfl⟩ fun cs hc => ⟨rfl, Stt.start hc⟩) ?_
  rintro _ o ⟨rfl, st⟩
  refine q_asg (d := .list nm) (by walk_at "ev") ?_
  show SD K _ _ [.d (.list (xs.map .int)), .own, .d (.list nm), .no, .no, .no, .no, .no] o _ _ _ _
  have draw : ∀ {env : List Sl} {b : Int} {o : OS} {R : List PyData → OS → Prop}, env[1]? = some .own → env[2]? = some (.d (.list nm)) → Stt 0 b o → b ≤ 60000 → (∀ s o2, s ∈ kinds → Stt 0 (b + 1) o2 → R [.str s] o2) → EvAR K (tCons (tOp (rIxL K) (tVar 2) (tCall (spS K Pre_law_next Post_law_next) [] E0 (tCons (tVar 1) (tCons (tC (.int 6)) tNil)))) tNil) env o R := fun {env b o R} e1 e2 st hb k => by
    refine ear_cons (er_op (EvD.toR (ev_var e2) (er_next (m := 6) e1 (by walk_at "ea") (by decide) st (by decide) (by omega) fun v o2 st2 v0 v1 => ?_)))
    obtain ⟨s, hs, hk⟩ := name_at v0 v1
    exact ⟨_, rv_ixL hs, ear_nil (k s o2 hk st2)⟩
  -- the first form
  refine q_asgR (er_call (ear_cons (er_form rfl (draw rfl rfl st (by decide) fun s o2 hs st2 => ⟨s, _, rfl, hs, st2, by decide, fun g o3 dr st3 => ?_⟩))))
  refine ear_cons (er_change rfl ((ea_cons ev_int ea_nil).toR ⟨3, _, rfl, by decide, by decide, st3, by decide, fun m o4 dm bm st4 => ear_nil ?_⟩))
  refine ⟨_, i_law_act (n := 40) (k := 30) (dr.sz.bd (by decide)) (bm.bd (by decide)) (by decide), _, tg_name, ?_⟩
  have szf := (dr.sz.act bm).mono (show _ ≤ 2200000 by decide)
  have df := Mth.dsc_act1 (f := g) dm
  have nzf : Mth.actF g m ≠ nought := fun z => dr.nz (to_nought dm z)
  have lof : -1300 ≤ Mth.dscF (Mth.actF g m) := by rw [df]; exact dr.lo
  have hif : Mth.dscF (Mth.actF g m) ≤ 1300 := by rw [df]; exact dr.hi
  generalize Mth.actF g m = f at *
  have smf := sz_sm szf (by decide) lof hif
  show SD K _ _ [.d (.list (xs.map .int)), .own, .d (.list nm), .d (dF f), .no, .no, .no, .no] o4 _ _ _ _
  -- the second
  refine q_asgR (er_call (ear_cons (er_other rfl ((ea_cons (ev_var rfl) ea_nil).toR ⟨f, _, rfl, szf, lof, hif, st4, by decide, fun h o5 szh loh hih st5 => ?_⟩))))
  refine ear_cons (er_change rfl ((ea_cons ev_int ea_nil).toR ⟨4, _, rfl, by decide, by decide, st5, by decide, fun m o6 dm bm st6 => ear_nil ?_⟩))
  refine ⟨_, i_law_act (n := 40) (k := 30) (szh.bd (by decide)) (bm.bd (by decide)) (by decide), _, tg_name, ?_⟩
  have dh := Mth.dsc_act1 (f := h) dm
  have smh : Sm (Mth.actF h m) := sz_sm (szh.act bm) (by decide) (by rw [dh]; exact loh) (by rw [dh]; exact hih)
  generalize Mth.actF h m = g2 at *
  show SD K _ _ [.d (.list (xs.map .int)), .own, .d (.list nm), .d (dF f), .d (dF g2), .no, .no, .no] o6 _ _ _ _
  refine s_seq (M := fun e o => ∃ h : Mth.F3, e = [.d (.list (xs.map .int)), .own, .d (.list nm), .d (dF f), .d (dF h), .no, .no, .no] ∧ Stt 0 1000 o ∧ Sm h) (s_ifR (etr_test (er_op (er_next (m := 10) rfl (by walk_at "ea") (by decide) st6 (by decide) (by decide) fun v o7 st7 v0 v1 => EvD.toR ev_int ⟨.bool (decide (v = 0)), rv_eqI, decide (v = 0), rfl, fun _ => ?_, fun _ => ?_⟩)))) ?_
  · refine s_asgR (er_form rfl (draw rfl rfl st7 (by decide) fun s o8 hs st8 => ⟨s, _, rfl, hs, st8, by decide, fun g o9 dr st9 => ⟨_, tg_name, g, rfl, st9.up (by decide), sz_sm dr.sz (by decide) dr.lo dr.hi⟩⟩))
  · exact s_next ⟨g2, rfl, st7.up (by decide), smh⟩
  rintro _ o7 ⟨h, rfl, st7, smh⟩
  refine s_seq (M := fun e o => e = [.d (.list (xs.map .int)), .own, .d (.list nm), .d (dF f), .d (dF h), .no, .no, .no] ∧ Stt 0 1001 o) (s_ifR (etr_and (etr_test (er_op (er_next (m := 10) rfl (by walk_at "ea") (by decide) st7 (by decide) (by decide) fun v o8 st8 v0 v1 => EvD.toR ev_int ⟨.bool (decide (v = 0)), rv_eqI, decide (v = 0), rfl, fun _ => ?_, fun _ => ⟨fun z => (nomatch z), fun _ => s_next ⟨rfl, st8⟩⟩⟩))))) ?_
  · refine EvT.toR (b := !true) (et_not (et_B (EvR.toD (er_callP' (ds := [dF f]) (by walk_at "ea") ⟨f, rfl, smf, nzf⟩ fun d hd => ⟨hd f rfl, rfl⟩)))) ⟨fun z => (nomatch z), fun _ => s_next ⟨rfl, st8⟩⟩
  rintro _ o8 ⟨rfl, st8⟩
  refine q_asgR (er_callP' (ds := [dF f]) (by walk_at "ea") ⟨f, rfl, smf⟩ fun d hd => ?_)
  obtain ⟨C, m, rfl, a1, a2, a3, a4⟩ := hd f rfl
  refine ⟨_, tg_tup (tg_cons tg_name (tg_cons tg_name tg_nil)) rfl, ?_⟩
  have one : ∀ {k : Nat} (m : Mth.M4), BdM k m → k ≤ 240010 → ∀ m', some m = some m' → BdM 240010 m' := fun m bm hk m' e => by
    cases e
    exact bm.mono hk
  show SD K _ _ [.d (.list (xs.map .int)), .own, .d (.list nm), .d (dF f), .d (dF h), .d (dF C), .d (dM m), .no] o8 _ _ _ _
  refine q_skip (EvT.is (b := !true || (false || !true)) (et_or (et_not (et_B (EvR.toD (er_isiT (er_callP' (ds := [dF f]) (by walk_at "ea") ⟨f, rfl, smf⟩ fun d hd => ?_))))) fun _ => et_or (EvT.is (et_test (ev_op (ev_var (d := dF C) rfl) (ev_can (by walk_at "ea") smf a1) rv_neF)) (by simp)) fun _ => et_not (et_B (EvD.is (ev_call (ds := [dF f, dF C, oM (some m), .int 1]) (ea_cons (ev_var rfl) (ea_cons (ev_var rfl) (ea_cons (ev_var rfl) (ea_cons ev_int ea_nil)))) (i_law_leads smf.bd (one m a4 (by decide)))) (congrArg _ (lead_yes a3 a2))))) rfl) ?_
  · obtain ⟨C', m', rfl, _⟩ := hd f rfl
    exact ⟨rfl, rfl, rfl⟩
  -- a change of determinant 1
  refine q_asgR (er_callP' (ds := [dF f, dF h]) (by walk_at "ea") ⟨f, h, rfl, smf, smh⟩ fun d hd => ⟨_, tg_name, ?_⟩)
  obtain ⟨C1, C2, k1, k2, hh⟩ := hd f h rfl
  have e1 : C1 = C := can_one smf.hi k1 a1
  subst e1
  show SD K _ _ [.d (.list (xs.map .int)), .own, .d (.list nm), .d (dF f), .d (dF h), .d (dF C1), .d (dM m), .d d] o8 _ _ _ _
  refine s_seq (M := fun e o => ∃ z, e = [.d (.list (xs.map .int)), .own, .d (.list nm), .d (dF f), .d (dF h), .d (dF C1), .d (dM m), z] ∧ o = o8) (s_if (et_test (ev_op (ev_var (d := dF C1) rfl) (ev_can (by walk_at "ea") smh k2) rv_eqF)) (fun hb => ?_) fun hb => ?_) ?_
  · have ee := of_decide_eq_true hb
    have ec : C1 = C2 := Mth.F3.ext ee.1 ee.2.1 ee.2.2
    rcases hh with ⟨_, x, rfl, x1, x2, x3⟩ | ⟨ne, _⟩
    · exact s_if (b := !true) (et_not (et_B (EvD.is (ev_call (ds := [dF f, dF h, oM (some x), .int 1]) (ea_cons (ev_var rfl) (ea_cons (ev_var rfl) (ea_cons (ev_var rfl) (ea_cons ev_int ea_nil)))) (i_law_leads smf.bd (one x x3 (by decide)))) (congrArg _ (lead_yes x1 x2))))) (fun z => nomatch z) fun _ => s_next ⟨_, rfl, rfl⟩
    · exact absurd ec ne
  · have ee := of_decide_eq_false hb
    rcases hh with ⟨ec, _⟩ | ⟨_, rfl⟩
    · subst ec
      exact absurd ⟨rfl, rfl, rfl⟩ ee
    · exact s_if (b := false) (et_test (EvD.is (ev_op (ev_var rfl) ev_non rv_notN) rfl)) (fun z => nomatch z) fun _ => s_next ⟨_, rfl, rfl⟩
  rintro _ o9 ⟨z, rfl, rfl⟩
  -- a change of determinant -1
  refine q_asgR (er_callP' (ds := [dF f, dF h]) (by walk_at "ea") ⟨f, h, rfl, smf, smh⟩ fun d hd => ⟨_, tg_name, ?_⟩)
  obtain ⟨D1, D2, j1, j2, hm⟩ := hd f h rfl
  show SD K _ _ [.d (.list (xs.map .int)), .own, .d (.list nm), .d (dF f), .d (dF h), .d (dF C1), .d (dM m), .d d] o9 _ _ _ _
  refine s_seq (M := fun e o' => e = [.d (.list (xs.map .int)), .own, .d (.list nm), .d (dF f), .d (dF h), .d (dF C1), .d (dM m), .d d] ∧ o' = o9 ∧ D1 ≠ D2) (s_if (et_test (ev_op (ev_can (g := mirF f) (by unfold mirF; walk_at "ea") (mir_sm smf) j1) (ev_can (by walk_at "ea") smh j2) rv_eqF)) (fun hb => ?_) fun hb => ?_) ?_
  · have ee := of_decide_eq_true hb
    have ec : D1 = D2 := Mth.F3.ext ee.1 ee.2.1 ee.2.2
    rcases hm with ⟨_, x, rfl, x1, x2, x3⟩ | ⟨ne, _⟩
    · exact s_ret (ev_call (ds := [dF f, dF h, oM (some x), .int (-1)]) (ea_cons (ev_var rfl) (ea_cons (ev_var rfl) (ea_cons (ev_var rfl) (ea_cons (ev_un ev_int ru_I) ea_nil)))) (i_law_leads smf.bd (one x x3 (by decide)))) fun _ _ => congrArg _ (lead_yes x1 x2)
    · exact absurd ec ne
  · have ee := of_decide_eq_false hb
    exact s_next ⟨rfl, rfl, fun ec => ee (by subst ec; exact ⟨rfl, rfl, rfl⟩)⟩
  rintro _ _ ⟨rfl, rfl, ne⟩
  rcases hm with ⟨ec, _⟩ | ⟨_, rfl⟩
  · exact absurd ec ne
  · exact s_ret (EvD.is (ev_op (ev_var rfl) ev_non rv_isN) rfl) fun _ _ => rfl


end
end Kx

-- Khead
set_option maxHeartbeats 0
namespace Kh
open PySem PySem.Spec PyProof.Rows L2
def top (i : Nat) : Stmt := PySem.Challenge.pw_wholeconic_k15_whole_alike_exactly.main.body.getD i (.Pass ⟨0, 0, 0, 0⟩)
abbrev DefK : Type := He.DefD
def dk (g n : Str) (i : Nat) : He.DefD := ⟨(g, none), n, n, defArgs (top i), defBody (top i), defScope (top i), [], []⟩
def fn1 : List He.DefD := [dk "bezout" "bezout" 2, dk "measure" "measure" 3, dk "floor_root" "floor_root" 4, dk "is_square" "is_square" 5, dk "discriminant" "discriminant" 7, dk "content" "content" 8, dk "worth" "worth" 9, dk "act" "act" 10, dk "scaled" "scaled" 11, dk "divided" "divided" 12, dk "kind" "kind" 13, dk "multiply" "multiply" 16, dk "determinant" "determinant" 17, dk "inverse" "inverse" 18, dk "is_reduced_definite" "is_reduced" 20, dk "reduce_positive" "reduce_positive" 22, dk "reduce_definite" "reduce_definite" 23, dk "is_reduced_indefinite" "is_reduced" 25, dk "step_of" "step_of" 27, dk "reduce_indefinite" "reduce_indefinite" 28, dk "cycle" "cycle" 29, dk "canonical" "canonical" 30, dk "primitive" "primitive" 32, dk "zero_lines" "zero_lines" 33, dk "leading" "leading" 34, dk "canonical_split" "canonical_split" 35, dk "flat_parts" "flat_parts" 36, dk "canonical_flat" "canonical_flat" 37, dk "canonical_form" "canonical_form" 40, dk "proper_change" "proper_change" 41]
def fn2 : List He.DefD := [dk "mirrored_change" "mirrored_change" 42, dk "_law_cell" "_law_cell" 44, dk "_law_numbers" "_law_numbers" 45, dk "_law_state" "_law_state" 46, dk "_law_next" "_law_next" 47, dk "_law_root" "_law_root" 49, dk "_law_mul" "_law_mul" 50, dk "_law_worth" "_law_worth" 52, dk "_law_act" "_law_act" 53, dk "_law_change" "_law_change" 54, dk "_law_square" "_law_square" 55, dk "_law_kind" "_law_kind" 56, dk "_law_split" "_law_split" 57, dk "_law_flat" "_law_flat" 58, dk "_law_form" "_law_form" 59, dk "_law_is_reduced" "_law_is_reduced" 60, dk "_law_neighbour" "_law_neighbour" 61, dk "_law_ring" "_law_ring" 62, dk "_law_positive" "_law_positive" 63, dk "_law_lowered" "_law_lowered" 64, dk "_law_measure" "_law_measure" 65, dk "_law_column" "_law_column" 66, dk "_law_split_least" "_law_split_least" 67, dk "_law_canonical" "_law_canonical" 68, dk "_law_other" "_law_other" 69, dk "_law_leads" "_law_leads" 70, dk "_law_of_nought" "_law_of_nought" 71, dk "law" "law" 72]
def fn : List He.DefD := fn1 ++ fn2
def fa1 : List He.Fa := [.glo "bezout", .glo "measure", .glo "floor_root", .glo "is_square", .glo "discriminant", .glo "content", .glo "worth", .glo "act", .glo "scaled", .glo "divided", .glo "kind", .glo "multiply", .glo "determinant", .glo "inverse", .glo "is_reduced_definite", .glo "reduce_positive", .glo "reduce_definite", .glo "is_reduced_indefinite", .glo "step_of", .glo "reduce_indefinite", .glo "cycle", .glo "canonical", .glo "primitive", .glo "zero_lines", .glo "leading", .glo "canonical_split", .glo "flat_parts", .glo "canonical_flat", .glo "canonical_form", .glo "proper_change"]
def fa2 : List He.Fa := [.glo "mirrored_change", .glo "_law_cell", .glo "_law_numbers", .glo "_law_state", .glo "_law_next", .glo "_law_root", .glo "_law_mul", .glo "_law_worth", .glo "_law_act", .glo "_law_change", .glo "_law_square", .glo "_law_kind", .glo "_law_split", .glo "_law_flat", .glo "_law_form", .glo "_law_is_reduced", .glo "_law_neighbour", .glo "_law_ring", .glo "_law_positive", .glo "_law_lowered", .glo "_law_measure", .glo "_law_column", .glo "_law_split_least", .glo "_law_canonical", .glo "_law_other", .glo "_law_leads", .glo "_law_of_nought", .glo "law"]
def fa3 : List He.Fa := [.free "abs", .free "range", .free "len", .free "int", .free "tuple", .free "isinstance", .free "min", .glo "UNIT", .glo "MIRROR"]
def fa : List He.Fa := fa1 ++ (fa2 ++ fa3)
/-- the module's tables and the imported name -/
def exB (K : PySem.W.Frag) : Bool := He.tupB K "UNIT" [.int 1, .int 0, .int 0, .int 1] && (He.tupB K "MIRROR" [.int 1, .int 0, .int 0, .int (-1)] && He.eqO (PySem.W.nsIn K mainGlobals "isqrt") (some (some (.builtin "math.isqrt"))))
def obsK (K : PySem.W.Frag) : He.AlD := (exB K && (He.obsD fa fn K).1, (He.obsD fa fn K).2)
def SaysK (K : PySem.W.Frag) : Prop := obsK K = He.valD fn
def obsKG (n : Nat) (g : Addr → Option Obj) : He.AlD := obsK (He.frG g (He.asD g n))
def hk : PySem.W.Hook where
  α := He.AlD
  obs := fun s => obsKG 2 s.heap.get?
  val := fun _ => He.valD fn
  says := fun _ h => ∃ K : PySem.W.Frag, K.In h ∧ SaysK K
  of := fun _ _ e => ⟨_, He.frG_in, e⟩
  keeps := fun _ _ _ ⟨K, hK, c⟩ k => ⟨K, PySem.W.Frag.In.keeps hK k, c⟩
theorem SaysK.both {K : PySem.W.Frag} (c : SaysK K) : exB K = true ∧ He.SaysD fa fn K := by
  have c1 : (exB K && (He.obsD fa fn K).1) = true := congrArg (fun z : He.AlD => z.1) c
  have c2 : (He.obsD fa fn K).2 = fn.map He.DefD.val := congrArg (fun z : He.AlD => z.2) c
  obtain ⟨a, b⟩ := Bool.and_eq_true_iff.mp c1
  exact ⟨a, Prod.ext b c2⟩
abbrev R : PySem.W.OpenRow := PySem.W.OpenLaw.row PySem.Challenge.rw_wholeconic_k15_whole_alike_exactly
def ob (s : PySem.W.SharedT) : He.AlD := obsKG 2 (HandSHeadRun.getT s)
theorem ob_eq (s : PySem.W.SharedT) : ob s = hk.obs s.abs := by
  have e : HandSHeadRun.getT s = s.abs.heap.get? := funext (HandSHeadRun.getT_eq s)
  show obsKG 2 (HandSHeadRun.getT s) = obsKG 2 s.abs.heap.get?
  rw [e]
def loose0 : List PySem.Str := ["bezout", "measure", "floor_root", "is_square", "discriminant", "content", "worth", "act", "scaled", "divided", "kind", "UNIT", "multiply", "determinant", "inverse", "is_reduced", "is_reduced_definite", "reduce_positive", "reduce_definite", "is_reduced_indefinite", "step_of", "reduce_indefinite", "cycle", "canonical", "primitive", "zero_lines", "leading", "canonical_split", "flat_parts", "canonical_flat"]
def loose1 : List PySem.Str := ["MIRROR", "canonical_form", "proper_change", "mirrored_change", "_law_cell", "_law_numbers", "_law_state", "_law_next", "_law_wide", "_law_root", "_law_mul", "_law_at", "_law_worth", "_law_act", "_law_change", "_law_square", "_law_kind", "_law_split", "_law_flat", "_law_form", "_law_is_reduced", "_law_neighbour", "_law_ring", "_law_positive", "_law_lowered", "_law_measure", "_law_column", "_law_split_least", "_law_canonical", "_law_other"]
def loose2 : List PySem.Str := ["_law_leads", "_law_of_nought"]
def loose : List PySem.Str := loose0 ++ (loose1 ++ (loose2))
theorem run (w : World) : HandSHeadRun.RunEqI R (PySem.W.view R.prog [0, 72]) hk ob 6000 loose w := by
  show _ = _
  kernel_rfl
end Kh

-- Kfin
set_option maxHeartbeats 0
namespace Kh
open PySem PySem.Spec PyProof.Rows L2
/-- a def of the head, where it stands -/
theorem at_mk {K : PySem.W.Frag} {h : Heap} {mg : Str → Option Value} (X : K.In h) (G : h.Ns mainGlobals mg) (c : He.SaysD fa fn K) {g n : Str} {i : Nat} {ps : List Str} (j : Nat) (hd : fn[j]? = some (dk g n i)) (hf : fa[j]? = some (.glo g))
    (hb : ∀ (kV doc pm : Value) (an : Option Addr) (cdv ct : Value) (us : List Value), us.length = ps.length → bindArgs (PySem.W.fnOf n n (defArgs (Kx.top i)) (defBody (Kx.top i)) (defScope (Kx.top i)) .none kV doc pm an cdv ct) ⟨us, []⟩ = pure (ps.zip us)) :
    Kx.DefAt K mg g n (Kx.top i) ps := by
  obtain ⟨fd, F⟩ := c.def_ j hd
  have F2 : FunD K n n (defArgs (Kx.top i)) (defBody (Kx.top i)) (defScope (Kx.top i)) [] [] (He.ga K g) fd := F
  exact ⟨He.ga K g, fd, He.glo_ok X G (c.fact j hf), F2, F2.bindsN hb⟩

theorem bd_bezout : ∀ (kV doc pm : Value) (an : Option Addr) (cdv ct : Value) (us : List Value), us.length = (["a", "b"] : List Str).length → bindArgs (PySem.W.fnOf "bezout" "bezout" (defArgs (Kx.top 2)) (defBody (Kx.top 2)) (defScope (Kx.top 2)) .none kV doc pm an cdv ct) ⟨us, []⟩ = pure ((["a", "b"] : List Str).zip us) := fun _ _ _ _ _ _ us hl => match us, hl with | [_, _], _ => rfl
theorem bd_measure : ∀ (kV doc pm : Value) (an : Option Addr) (cdv ct : Value) (us : List Value), us.length = (["numbers"] : List Str).length → bindArgs (PySem.W.fnOf "measure" "measure" (defArgs (Kx.top 3)) (defBody (Kx.top 3)) (defScope (Kx.top 3)) .none kV doc pm an cdv ct) ⟨us, []⟩ = pure ((["numbers"] : List Str).zip us) := fun _ _ _ _ _ _ us hl => match us, hl with | [_], _ => rfl
theorem bd_floor_root : ∀ (kV doc pm : Value) (an : Option Addr) (cdv ct : Value) (us : List Value), us.length = (["n"] : List Str).length → bindArgs (PySem.W.fnOf "floor_root" "floor_root" (defArgs (Kx.top 4)) (defBody (Kx.top 4)) (defScope (Kx.top 4)) .none kV doc pm an cdv ct) ⟨us, []⟩ = pure ((["n"] : List Str).zip us) := fun _ _ _ _ _ _ us hl => match us, hl with | [_], _ => rfl
theorem bd_is_square : ∀ (kV doc pm : Value) (an : Option Addr) (cdv ct : Value) (us : List Value), us.length = (["n"] : List Str).length → bindArgs (PySem.W.fnOf "is_square" "is_square" (defArgs (Kx.top 5)) (defBody (Kx.top 5)) (defScope (Kx.top 5)) .none kV doc pm an cdv ct) ⟨us, []⟩ = pure ((["n"] : List Str).zip us) := fun _ _ _ _ _ _ us hl => match us, hl with | [_], _ => rfl
theorem bd_discriminant : ∀ (kV doc pm : Value) (an : Option Addr) (cdv ct : Value) (us : List Value), us.length = (["form"] : List Str).length → bindArgs (PySem.W.fnOf "discriminant" "discriminant" (defArgs (Kx.top 7)) (defBody (Kx.top 7)) (defScope (Kx.top 7)) .none kV doc pm an cdv ct) ⟨us, []⟩ = pure ((["form"] : List Str).zip us) := fun _ _ _ _ _ _ us hl => match us, hl with | [_], _ => rfl
theorem bd_content : ∀ (kV doc pm : Value) (an : Option Addr) (cdv ct : Value) (us : List Value), us.length = (["form"] : List Str).length → bindArgs (PySem.W.fnOf "content" "content" (defArgs (Kx.top 8)) (defBody (Kx.top 8)) (defScope (Kx.top 8)) .none kV doc pm an cdv ct) ⟨us, []⟩ = pure ((["form"] : List Str).zip us) := fun _ _ _ _ _ _ us hl => match us, hl with | [_], _ => rfl
theorem bd_worth : ∀ (kV doc pm : Value) (an : Option Addr) (cdv ct : Value) (us : List Value), us.length = (["form", "point"] : List Str).length → bindArgs (PySem.W.fnOf "worth" "worth" (defArgs (Kx.top 9)) (defBody (Kx.top 9)) (defScope (Kx.top 9)) .none kV doc pm an cdv ct) ⟨us, []⟩ = pure ((["form", "point"] : List Str).zip us) := fun _ _ _ _ _ _ us hl => match us, hl with | [_, _], _ => rfl
theorem bd_act : ∀ (kV doc pm : Value) (an : Option Addr) (cdv ct : Value) (us : List Value), us.length = (["form", "m"] : List Str).length → bindArgs (PySem.W.fnOf "act" "act" (defArgs (Kx.top 10)) (defBody (Kx.top 10)) (defScope (Kx.top 10)) .none kV doc pm an cdv ct) ⟨us, []⟩ = pure ((["form", "m"] : List Str).zip us) := fun _ _ _ _ _ _ us hl => match us, hl with | [_, _], _ => rfl
theorem bd_scaled : ∀ (kV doc pm : Value) (an : Option Addr) (cdv ct : Value) (us : List Value), us.length = (["form", "number"] : List Str).length → bindArgs (PySem.W.fnOf "scaled" "scaled" (defArgs (Kx.top 11)) (defBody (Kx.top 11)) (defScope (Kx.top 11)) .none kV doc pm an cdv ct) ⟨us, []⟩ = pure ((["form", "number"] : List Str).zip us) := fun _ _ _ _ _ _ us hl => match us, hl with | [_, _], _ => rfl
theorem bd_divided : ∀ (kV doc pm : Value) (an : Option Addr) (cdv ct : Value) (us : List Value), us.length = (["form", "number"] : List Str).length → bindArgs (PySem.W.fnOf "divided" "divided" (defArgs (Kx.top 12)) (defBody (Kx.top 12)) (defScope (Kx.top 12)) .none kV doc pm an cdv ct) ⟨us, []⟩ = pure ((["form", "number"] : List Str).zip us) := fun _ _ _ _ _ _ us hl => match us, hl with | [_, _], _ => rfl
theorem bd_kind : ∀ (kV doc pm : Value) (an : Option Addr) (cdv ct : Value) (us : List Value), us.length = (["form"] : List Str).length → bindArgs (PySem.W.fnOf "kind" "kind" (defArgs (Kx.top 13)) (defBody (Kx.top 13)) (defScope (Kx.top 13)) .none kV doc pm an cdv ct) ⟨us, []⟩ = pure ((["form"] : List Str).zip us) := fun _ _ _ _ _ _ us hl => match us, hl with | [_], _ => rfl
theorem bd_multiply : ∀ (kV doc pm : Value) (an : Option Addr) (cdv ct : Value) (us : List Value), us.length = (["m", "n"] : List Str).length → bindArgs (PySem.W.fnOf "multiply" "multiply" (defArgs (Kx.top 16)) (defBody (Kx.top 16)) (defScope (Kx.top 16)) .none kV doc pm an cdv ct) ⟨us, []⟩ = pure ((["m", "n"] : List Str).zip us) := fun _ _ _ _ _ _ us hl => match us, hl with | [_, _], _ => rfl
theorem bd_determinant : ∀ (kV doc pm : Value) (an : Option Addr) (cdv ct : Value) (us : List Value), us.length = (["m"] : List Str).length → bindArgs (PySem.W.fnOf "determinant" "determinant" (defArgs (Kx.top 17)) (defBody (Kx.top 17)) (defScope (Kx.top 17)) .none kV doc pm an cdv ct) ⟨us, []⟩ = pure ((["m"] : List Str).zip us) := fun _ _ _ _ _ _ us hl => match us, hl with | [_], _ => rfl
theorem bd_inverse : ∀ (kV doc pm : Value) (an : Option Addr) (cdv ct : Value) (us : List Value), us.length = (["m"] : List Str).length → bindArgs (PySem.W.fnOf "inverse" "inverse" (defArgs (Kx.top 18)) (defBody (Kx.top 18)) (defScope (Kx.top 18)) .none kV doc pm an cdv ct) ⟨us, []⟩ = pure ((["m"] : List Str).zip us) := fun _ _ _ _ _ _ us hl => match us, hl with | [_], _ => rfl
theorem bd_is_reduced_definite : ∀ (kV doc pm : Value) (an : Option Addr) (cdv ct : Value) (us : List Value), us.length = (["form"] : List Str).length → bindArgs (PySem.W.fnOf "is_reduced" "is_reduced" (defArgs (Kx.top 20)) (defBody (Kx.top 20)) (defScope (Kx.top 20)) .none kV doc pm an cdv ct) ⟨us, []⟩ = pure ((["form"] : List Str).zip us) := fun _ _ _ _ _ _ us hl => match us, hl with | [_], _ => rfl
theorem bd_reduce_positive : ∀ (kV doc pm : Value) (an : Option Addr) (cdv ct : Value) (us : List Value), us.length = (["form"] : List Str).length → bindArgs (PySem.W.fnOf "reduce_positive" "reduce_positive" (defArgs (Kx.top 22)) (defBody (Kx.top 22)) (defScope (Kx.top 22)) .none kV doc pm an cdv ct) ⟨us, []⟩ = pure ((["form"] : List Str).zip us) := fun _ _ _ _ _ _ us hl => match us, hl with | [_], _ => rfl
theorem bd_reduce_definite : ∀ (kV doc pm : Value) (an : Option Addr) (cdv ct : Value) (us : List Value), us.length = (["form"] : List Str).length → bindArgs (PySem.W.fnOf "reduce_definite" "reduce_definite" (defArgs (Kx.top 23)) (defBody (Kx.top 23)) (defScope (Kx.top 23)) .none kV doc pm an cdv ct) ⟨us, []⟩ = pure ((["form"] : List Str).zip us) := fun _ _ _ _ _ _ us hl => match us, hl with | [_], _ => rfl
theorem bd_is_reduced_indefinite : ∀ (kV doc pm : Value) (an : Option Addr) (cdv ct : Value) (us : List Value), us.length = (["form"] : List Str).length → bindArgs (PySem.W.fnOf "is_reduced" "is_reduced" (defArgs (Kx.top 25)) (defBody (Kx.top 25)) (defScope (Kx.top 25)) .none kV doc pm an cdv ct) ⟨us, []⟩ = pure ((["form"] : List Str).zip us) := fun _ _ _ _ _ _ us hl => match us, hl with | [_], _ => rfl
theorem bd_step_of : ∀ (kV doc pm : Value) (an : Option Addr) (cdv ct : Value) (us : List Value), us.length = (["form"] : List Str).length → bindArgs (PySem.W.fnOf "step_of" "step_of" (defArgs (Kx.top 27)) (defBody (Kx.top 27)) (defScope (Kx.top 27)) .none kV doc pm an cdv ct) ⟨us, []⟩ = pure ((["form"] : List Str).zip us) := fun _ _ _ _ _ _ us hl => match us, hl with | [_], _ => rfl
theorem bd_reduce_indefinite : ∀ (kV doc pm : Value) (an : Option Addr) (cdv ct : Value) (us : List Value), us.length = (["form"] : List Str).length → bindArgs (PySem.W.fnOf "reduce_indefinite" "reduce_indefinite" (defArgs (Kx.top 28)) (defBody (Kx.top 28)) (defScope (Kx.top 28)) .none kV doc pm an cdv ct) ⟨us, []⟩ = pure ((["form"] : List Str).zip us) := fun _ _ _ _ _ _ us hl => match us, hl with | [_], _ => rfl
theorem bd_cycle : ∀ (kV doc pm : Value) (an : Option Addr) (cdv ct : Value) (us : List Value), us.length = (["form"] : List Str).length → bindArgs (PySem.W.fnOf "cycle" "cycle" (defArgs (Kx.top 29)) (defBody (Kx.top 29)) (defScope (Kx.top 29)) .none kV doc pm an cdv ct) ⟨us, []⟩ = pure ((["form"] : List Str).zip us) := fun _ _ _ _ _ _ us hl => match us, hl with | [_], _ => rfl
theorem bd_canonical : ∀ (kV doc pm : Value) (an : Option Addr) (cdv ct : Value) (us : List Value), us.length = (["form"] : List Str).length → bindArgs (PySem.W.fnOf "canonical" "canonical" (defArgs (Kx.top 30)) (defBody (Kx.top 30)) (defScope (Kx.top 30)) .none kV doc pm an cdv ct) ⟨us, []⟩ = pure ((["form"] : List Str).zip us) := fun _ _ _ _ _ _ us hl => match us, hl with | [_], _ => rfl
theorem bd_primitive : ∀ (kV doc pm : Value) (an : Option Addr) (cdv ct : Value) (us : List Value), us.length = (["x", "y"] : List Str).length → bindArgs (PySem.W.fnOf "primitive" "primitive" (defArgs (Kx.top 32)) (defBody (Kx.top 32)) (defScope (Kx.top 32)) .none kV doc pm an cdv ct) ⟨us, []⟩ = pure ((["x", "y"] : List Str).zip us) := fun _ _ _ _ _ _ us hl => match us, hl with | [_, _], _ => rfl
theorem bd_zero_lines : ∀ (kV doc pm : Value) (an : Option Addr) (cdv ct : Value) (us : List Value), us.length = (["form"] : List Str).length → bindArgs (PySem.W.fnOf "zero_lines" "zero_lines" (defArgs (Kx.top 33)) (defBody (Kx.top 33)) (defScope (Kx.top 33)) .none kV doc pm an cdv ct) ⟨us, []⟩ = pure ((["form"] : List Str).zip us) := fun _ _ _ _ _ _ us hl => match us, hl with | [_], _ => rfl
theorem bd_leading : ∀ (kV doc pm : Value) (an : Option Addr) (cdv ct : Value) (us : List Value), us.length = (["point"] : List Str).length → bindArgs (PySem.W.fnOf "leading" "leading" (defArgs (Kx.top 34)) (defBody (Kx.top 34)) (defScope (Kx.top 34)) .none kV doc pm an cdv ct) ⟨us, []⟩ = pure ((["point"] : List Str).zip us) := fun _ _ _ _ _ _ us hl => match us, hl with | [_], _ => rfl
theorem bd_canonical_split : ∀ (kV doc pm : Value) (an : Option Addr) (cdv ct : Value) (us : List Value), us.length = (["form"] : List Str).length → bindArgs (PySem.W.fnOf "canonical_split" "canonical_split" (defArgs (Kx.top 35)) (defBody (Kx.top 35)) (defScope (Kx.top 35)) .none kV doc pm an cdv ct) ⟨us, []⟩ = pure ((["form"] : List Str).zip us) := fun _ _ _ _ _ _ us hl => match us, hl with | [_], _ => rfl
theorem bd_flat_parts : ∀ (kV doc pm : Value) (an : Option Addr) (cdv ct : Value) (us : List Value), us.length = (["form"] : List Str).length → bindArgs (PySem.W.fnOf "flat_parts" "flat_parts" (defArgs (Kx.top 36)) (defBody (Kx.top 36)) (defScope (Kx.top 36)) .none kV doc pm an cdv ct) ⟨us, []⟩ = pure ((["form"] : List Str).zip us) := fun _ _ _ _ _ _ us hl => match us, hl with | [_], _ => rfl
theorem bd_canonical_flat : ∀ (kV doc pm : Value) (an : Option Addr) (cdv ct : Value) (us : List Value), us.length = (["form"] : List Str).length → bindArgs (PySem.W.fnOf "canonical_flat" "canonical_flat" (defArgs (Kx.top 37)) (defBody (Kx.top 37)) (defScope (Kx.top 37)) .none kV doc pm an cdv ct) ⟨us, []⟩ = pure ((["form"] : List Str).zip us) := fun _ _ _ _ _ _ us hl => match us, hl with | [_], _ => rfl
theorem bd_canonical_form : ∀ (kV doc pm : Value) (an : Option Addr) (cdv ct : Value) (us : List Value), us.length = (["form"] : List Str).length → bindArgs (PySem.W.fnOf "canonical_form" "canonical_form" (defArgs (Kx.top 40)) (defBody (Kx.top 40)) (defScope (Kx.top 40)) .none kV doc pm an cdv ct) ⟨us, []⟩ = pure ((["form"] : List Str).zip us) := fun _ _ _ _ _ _ us hl => match us, hl with | [_], _ => rfl
theorem bd_proper_change : ∀ (kV doc pm : Value) (an : Option Addr) (cdv ct : Value) (us : List Value), us.length = (["form", "other"] : List Str).length → bindArgs (PySem.W.fnOf "proper_change" "proper_change" (defArgs (Kx.top 41)) (defBody (Kx.top 41)) (defScope (Kx.top 41)) .none kV doc pm an cdv ct) ⟨us, []⟩ = pure ((["form", "other"] : List Str).zip us) := fun _ _ _ _ _ _ us hl => match us, hl with | [_, _], _ => rfl
theorem bd_mirrored_change : ∀ (kV doc pm : Value) (an : Option Addr) (cdv ct : Value) (us : List Value), us.length = (["form", "other"] : List Str).length → bindArgs (PySem.W.fnOf "mirrored_change" "mirrored_change" (defArgs (Kx.top 42)) (defBody (Kx.top 42)) (defScope (Kx.top 42)) .none kV doc pm an cdv ct) ⟨us, []⟩ = pure ((["form", "other"] : List Str).zip us) := fun _ _ _ _ _ _ us hl => match us, hl with | [_, _], _ => rfl
theorem bd_law_cell : ∀ (kV doc pm : Value) (an : Option Addr) (cdv ct : Value) (us : List Value), us.length = (["_law_script", "_law_k"] : List Str).length → bindArgs (PySem.W.fnOf "_law_cell" "_law_cell" (defArgs (Kx.top 44)) (defBody (Kx.top 44)) (defScope (Kx.top 44)) .none kV doc pm an cdv ct) ⟨us, []⟩ = pure ((["_law_script", "_law_k"] : List Str).zip us) := fun _ _ _ _ _ _ us hl => match us, hl with | [_, _], _ => rfl
theorem bd_law_numbers : ∀ (kV doc pm : Value) (an : Option Addr) (cdv ct : Value) (us : List Value), us.length = (["_law_cell_here", "_law_many"] : List Str).length → bindArgs (PySem.W.fnOf "_law_numbers" "_law_numbers" (defArgs (Kx.top 45)) (defBody (Kx.top 45)) (defScope (Kx.top 45)) .none kV doc pm an cdv ct) ⟨us, []⟩ = pure ((["_law_cell_here", "_law_many"] : List Str).zip us) := fun _ _ _ _ _ _ us hl => match us, hl with | [_, _], _ => rfl
theorem bd_law_state : ∀ (kV doc pm : Value) (an : Option Addr) (cdv ct : Value) (us : List Value), us.length = (["_law_script"] : List Str).length → bindArgs (PySem.W.fnOf "_law_state" "_law_state" (defArgs (Kx.top 46)) (defBody (Kx.top 46)) (defScope (Kx.top 46)) .none kV doc pm an cdv ct) ⟨us, []⟩ = pure ((["_law_script"] : List Str).zip us) := fun _ _ _ _ _ _ us hl => match us, hl with | [_], _ => rfl
theorem bd_law_next : ∀ (kV doc pm : Value) (an : Option Addr) (cdv ct : Value) (us : List Value), us.length = (["_law_state_here", "_law_many"] : List Str).length → bindArgs (PySem.W.fnOf "_law_next" "_law_next" (defArgs (Kx.top 47)) (defBody (Kx.top 47)) (defScope (Kx.top 47)) .none kV doc pm an cdv ct) ⟨us, []⟩ = pure ((["_law_state_here", "_law_many"] : List Str).zip us) := fun _ _ _ _ _ _ us hl => match us, hl with | [_, _], _ => rfl
theorem bd_law_root : ∀ (kV doc pm : Value) (an : Option Addr) (cdv ct : Value) (us : List Value), us.length = (["_law_n"] : List Str).length → bindArgs (PySem.W.fnOf "_law_root" "_law_root" (defArgs (Kx.top 49)) (defBody (Kx.top 49)) (defScope (Kx.top 49)) .none kV doc pm an cdv ct) ⟨us, []⟩ = pure ((["_law_n"] : List Str).zip us) := fun _ _ _ _ _ _ us hl => match us, hl with | [_], _ => rfl
theorem bd_law_mul : ∀ (kV doc pm : Value) (an : Option Addr) (cdv ct : Value) (us : List Value), us.length = (["_law_m", "_law_n"] : List Str).length → bindArgs (PySem.W.fnOf "_law_mul" "_law_mul" (defArgs (Kx.top 50)) (defBody (Kx.top 50)) (defScope (Kx.top 50)) .none kV doc pm an cdv ct) ⟨us, []⟩ = pure ((["_law_m", "_law_n"] : List Str).zip us) := fun _ _ _ _ _ _ us hl => match us, hl with | [_, _], _ => rfl
theorem bd_law_worth : ∀ (kV doc pm : Value) (an : Option Addr) (cdv ct : Value) (us : List Value), us.length = (["_law_form_here", "_law_x", "_law_y"] : List Str).length → bindArgs (PySem.W.fnOf "_law_worth" "_law_worth" (defArgs (Kx.top 52)) (defBody (Kx.top 52)) (defScope (Kx.top 52)) .none kV doc pm an cdv ct) ⟨us, []⟩ = pure ((["_law_form_here", "_law_x", "_law_y"] : List Str).zip us) := fun _ _ _ _ _ _ us hl => match us, hl with | [_, _, _], _ => rfl
theorem bd_law_act : ∀ (kV doc pm : Value) (an : Option Addr) (cdv ct : Value) (us : List Value), us.length = (["_law_form_here", "_law_m"] : List Str).length → bindArgs (PySem.W.fnOf "_law_act" "_law_act" (defArgs (Kx.top 53)) (defBody (Kx.top 53)) (defScope (Kx.top 53)) .none kV doc pm an cdv ct) ⟨us, []⟩ = pure ((["_law_form_here", "_law_m"] : List Str).zip us) := fun _ _ _ _ _ _ us hl => match us, hl with | [_, _], _ => rfl
theorem bd_law_change : ∀ (kV doc pm : Value) (an : Option Addr) (cdv ct : Value) (us : List Value), us.length = (["_law_state_here", "_law_many"] : List Str).length → bindArgs (PySem.W.fnOf "_law_change" "_law_change" (defArgs (Kx.top 54)) (defBody (Kx.top 54)) (defScope (Kx.top 54)) .none kV doc pm an cdv ct) ⟨us, []⟩ = pure ((["_law_state_here", "_law_many"] : List Str).zip us) := fun _ _ _ _ _ _ us hl => match us, hl with | [_, _], _ => rfl
theorem bd_law_square : ∀ (kV doc pm : Value) (an : Option Addr) (cdv ct : Value) (us : List Value), us.length = (["_law_n"] : List Str).length → bindArgs (PySem.W.fnOf "_law_square" "_law_square" (defArgs (Kx.top 55)) (defBody (Kx.top 55)) (defScope (Kx.top 55)) .none kV doc pm an cdv ct) ⟨us, []⟩ = pure ((["_law_n"] : List Str).zip us) := fun _ _ _ _ _ _ us hl => match us, hl with | [_], _ => rfl
theorem bd_law_kind : ∀ (kV doc pm : Value) (an : Option Addr) (cdv ct : Value) (us : List Value), us.length = (["_law_form_here"] : List Str).length → bindArgs (PySem.W.fnOf "_law_kind" "_law_kind" (defArgs (Kx.top 56)) (defBody (Kx.top 56)) (defScope (Kx.top 56)) .none kV doc pm an cdv ct) ⟨us, []⟩ = pure ((["_law_form_here"] : List Str).zip us) := fun _ _ _ _ _ _ us hl => match us, hl with | [_], _ => rfl
theorem bd_law_split : ∀ (kV doc pm : Value) (an : Option Addr) (cdv ct : Value) (us : List Value), us.length = (["_law_state_here"] : List Str).length → bindArgs (PySem.W.fnOf "_law_split" "_law_split" (defArgs (Kx.top 57)) (defBody (Kx.top 57)) (defScope (Kx.top 57)) .none kV doc pm an cdv ct) ⟨us, []⟩ = pure ((["_law_state_here"] : List Str).zip us) := fun _ _ _ _ _ _ us hl => match us, hl with | [_], _ => rfl
theorem bd_law_flat : ∀ (kV doc pm : Value) (an : Option Addr) (cdv ct : Value) (us : List Value), us.length = (["_law_state_here"] : List Str).length → bindArgs (PySem.W.fnOf "_law_flat" "_law_flat" (defArgs (Kx.top 58)) (defBody (Kx.top 58)) (defScope (Kx.top 58)) .none kV doc pm an cdv ct) ⟨us, []⟩ = pure ((["_law_state_here"] : List Str).zip us) := fun _ _ _ _ _ _ us hl => match us, hl with | [_], _ => rfl
theorem bd_law_form : ∀ (kV doc pm : Value) (an : Option Addr) (cdv ct : Value) (us : List Value), us.length = (["_law_state_here", "_law_sort"] : List Str).length → bindArgs (PySem.W.fnOf "_law_form" "_law_form" (defArgs (Kx.top 59)) (defBody (Kx.top 59)) (defScope (Kx.top 59)) .none kV doc pm an cdv ct) ⟨us, []⟩ = pure ((["_law_state_here", "_law_sort"] : List Str).zip us) := fun _ _ _ _ _ _ us hl => match us, hl with | [_, _], _ => rfl
theorem bd_law_is_reduced : ∀ (kV doc pm : Value) (an : Option Addr) (cdv ct : Value) (us : List Value), us.length = (["_law_form_here"] : List Str).length → bindArgs (PySem.W.fnOf "_law_is_reduced" "_law_is_reduced" (defArgs (Kx.top 60)) (defBody (Kx.top 60)) (defScope (Kx.top 60)) .none kV doc pm an cdv ct) ⟨us, []⟩ = pure ((["_law_form_here"] : List Str).zip us) := fun _ _ _ _ _ _ us hl => match us, hl with | [_], _ => rfl
theorem bd_law_neighbour : ∀ (kV doc pm : Value) (an : Option Addr) (cdv ct : Value) (us : List Value), us.length = (["_law_form_here"] : List Str).length → bindArgs (PySem.W.fnOf "_law_neighbour" "_law_neighbour" (defArgs (Kx.top 61)) (defBody (Kx.top 61)) (defScope (Kx.top 61)) .none kV doc pm an cdv ct) ⟨us, []⟩ = pure ((["_law_form_here"] : List Str).zip us) := fun _ _ _ _ _ _ us hl => match us, hl with | [_], _ => rfl
theorem bd_law_ring : ∀ (kV doc pm : Value) (an : Option Addr) (cdv ct : Value) (us : List Value), us.length = (["_law_form_here"] : List Str).length → bindArgs (PySem.W.fnOf "_law_ring" "_law_ring" (defArgs (Kx.top 62)) (defBody (Kx.top 62)) (defScope (Kx.top 62)) .none kV doc pm an cdv ct) ⟨us, []⟩ = pure ((["_law_form_here"] : List Str).zip us) := fun _ _ _ _ _ _ us hl => match us, hl with | [_], _ => rfl
theorem bd_law_positive : ∀ (kV doc pm : Value) (an : Option Addr) (cdv ct : Value) (us : List Value), us.length = (["_law_form_here"] : List Str).length → bindArgs (PySem.W.fnOf "_law_positive" "_law_positive" (defArgs (Kx.top 63)) (defBody (Kx.top 63)) (defScope (Kx.top 63)) .none kV doc pm an cdv ct) ⟨us, []⟩ = pure ((["_law_form_here"] : List Str).zip us) := fun _ _ _ _ _ _ us hl => match us, hl with | [_], _ => rfl
theorem bd_law_lowered : ∀ (kV doc pm : Value) (an : Option Addr) (cdv ct : Value) (us : List Value), us.length = (["_law_form_here"] : List Str).length → bindArgs (PySem.W.fnOf "_law_lowered" "_law_lowered" (defArgs (Kx.top 64)) (defBody (Kx.top 64)) (defScope (Kx.top 64)) .none kV doc pm an cdv ct) ⟨us, []⟩ = pure ((["_law_form_here"] : List Str).zip us) := fun _ _ _ _ _ _ us hl => match us, hl with | [_], _ => rfl
theorem bd_law_measure : ∀ (kV doc pm : Value) (an : Option Addr) (cdv ct : Value) (us : List Value), us.length = (["_law_a", "_law_b"] : List Str).length → bindArgs (PySem.W.fnOf "_law_measure" "_law_measure" (defArgs (Kx.top 65)) (defBody (Kx.top 65)) (defScope (Kx.top 65)) .none kV doc pm an cdv ct) ⟨us, []⟩ = pure ((["_law_a", "_law_b"] : List Str).zip us) := fun _ _ _ _ _ _ us hl => match us, hl with | [_, _], _ => rfl
theorem bd_law_column : ∀ (kV doc pm : Value) (an : Option Addr) (cdv ct : Value) (us : List Value), us.length = (["_law_x", "_law_y"] : List Str).length → bindArgs (PySem.W.fnOf "_law_column" "_law_column" (defArgs (Kx.top 66)) (defBody (Kx.top 66)) (defScope (Kx.top 66)) .none kV doc pm an cdv ct) ⟨us, []⟩ = pure ((["_law_x", "_law_y"] : List Str).zip us) := fun _ _ _ _ _ _ us hl => match us, hl with | [_, _], _ => rfl
theorem bd_law_split_least : ∀ (kV doc pm : Value) (an : Option Addr) (cdv ct : Value) (us : List Value), us.length = (["_law_form_here"] : List Str).length → bindArgs (PySem.W.fnOf "_law_split_least" "_law_split_least" (defArgs (Kx.top 67)) (defBody (Kx.top 67)) (defScope (Kx.top 67)) .none kV doc pm an cdv ct) ⟨us, []⟩ = pure ((["_law_form_here"] : List Str).zip us) := fun _ _ _ _ _ _ us hl => match us, hl with | [_], _ => rfl
theorem bd_law_canonical : ∀ (kV doc pm : Value) (an : Option Addr) (cdv ct : Value) (us : List Value), us.length = (["_law_form_here"] : List Str).length → bindArgs (PySem.W.fnOf "_law_canonical" "_law_canonical" (defArgs (Kx.top 68)) (defBody (Kx.top 68)) (defScope (Kx.top 68)) .none kV doc pm an cdv ct) ⟨us, []⟩ = pure ((["_law_form_here"] : List Str).zip us) := fun _ _ _ _ _ _ us hl => match us, hl with | [_], _ => rfl
theorem bd_law_other : ∀ (kV doc pm : Value) (an : Option Addr) (cdv ct : Value) (us : List Value), us.length = (["_law_state_here", "_law_form_here"] : List Str).length → bindArgs (PySem.W.fnOf "_law_other" "_law_other" (defArgs (Kx.top 69)) (defBody (Kx.top 69)) (defScope (Kx.top 69)) .none kV doc pm an cdv ct) ⟨us, []⟩ = pure ((["_law_state_here", "_law_form_here"] : List Str).zip us) := fun _ _ _ _ _ _ us hl => match us, hl with | [_, _], _ => rfl
theorem bd_law_leads : ∀ (kV doc pm : Value) (an : Option Addr) (cdv ct : Value) (us : List Value), us.length = (["_law_form_here", "_law_other_here", "_law_m", "_law_sign"] : List Str).length → bindArgs (PySem.W.fnOf "_law_leads" "_law_leads" (defArgs (Kx.top 70)) (defBody (Kx.top 70)) (defScope (Kx.top 70)) .none kV doc pm an cdv ct) ⟨us, []⟩ = pure ((["_law_form_here", "_law_other_here", "_law_m", "_law_sign"] : List Str).zip us) := fun _ _ _ _ _ _ us hl => match us, hl with | [_, _, _, _], _ => rfl
theorem bd_law_of_nought : ∀ (kV doc pm : Value) (an : Option Addr) (cdv ct : Value) (us : List Value), us.length = (["_law_form_here"] : List Str).length → bindArgs (PySem.W.fnOf "_law_of_nought" "_law_of_nought" (defArgs (Kx.top 71)) (defBody (Kx.top 71)) (defScope (Kx.top 71)) .none kV doc pm an cdv ct) ⟨us, []⟩ = pure ((["_law_form_here"] : List Str).zip us) := fun _ _ _ _ _ _ us hl => match us, hl with | [_], _ => rfl
theorem bd_law : ∀ (kV doc pm : Value) (an : Option Addr) (cdv ct : Value) (us : List Value), us.length = (["_law_script"] : List Str).length → bindArgs (PySem.W.fnOf "law" "law" (defArgs (Kx.top 72)) (defBody (Kx.top 72)) (defScope (Kx.top 72)) .none kV doc pm an cdv ct) ⟨us, []⟩ = pure ((["_law_script"] : List Str).zip us) := fun _ _ _ _ _ _ us hl => match us, hl with | [_], _ => rfl
theorem md {K : PySem.W.Frag} {h : Heap} {mg : Str → Option Value} (X : K.In h) (G : h.Ns mainGlobals mg) (e : exB K = true) (c : He.SaysD fa fn K) : Kx.Md K mg := by
  obtain ⟨e1, e23⟩ := Bool.and_eq_true_iff.mp e
  obtain ⟨e2, e3⟩ := Bool.and_eq_true_iff.mp e23
  exact ⟨He.free_ok X G (c.fact 58 (f := .free "abs") rfl),
    He.free_ok X G (c.fact 59 (f := .free "range") rfl),
    He.free_ok X G (c.fact 60 (f := .free "len") rfl),
    He.free_ok X G (c.fact 61 (f := .free "int") rfl),
    He.free_ok X G (c.fact 62 (f := .free "tuple") rfl),
    He.free_ok X G (c.fact 63 (f := .free "isinstance") rfl),
    He.free_ok X G (c.fact 64 (f := .free "min") rfl),
    PySem.W.mg_of X G (He.eqO_ok e3),
    ⟨_, He.glo_ok X G (c.fact 65 (f := .glo "UNIT") rfl), fun H => He.tupB_ok e1 H⟩, ⟨_, He.glo_ok X G (c.fact 66 (f := .glo "MIRROR") rfl), fun H => He.tupB_ok e2 H⟩⟩
theorem law_ok {P : Program} {w : World} {K : PySem.W.Frag} {h : Heap} {mg : Str → Option Value} (X : K.In h) (G : h.Ns mainGlobals mg) (s : SaysK K) {f : Addr} (hfa : mg ("law" : Str) = some (.ref f)) :
    ∃ fd : FuncData, (∀ (s : Shared) (v : Value), BindsTo s fd ⟨[v], []⟩ [("_law_script", v)]) ∧ ∀ base : Heap, FnOk P w K mg base CX0 10 f fd ["_law_script"] (Kx.spP K Kx.Pre_law Kx.Post_law) := by
  obtain ⟨e, c⟩ := s.both
  have T := md X G e c
  obtain ⟨fd, F⟩ := c.def_ 57 (d := dk "law" "law" 72) rfl
  have F2 : FunD K "law" "law" (defArgs (Kx.top 72)) (defBody (Kx.top 72)) (defScope (Kx.top 72)) [] [] (He.ga K "law") fd := F
  have e2 := hfa.symm.trans (He.glo_ok X G (c.fact 57 (f := .glo "law") rfl))
  cases e2
  have b := FunD.bindsA (ps := ["_law_script"]) F2 bd_law
  refine ⟨fd, fun s v => b s [v] rfl, fun base => ?_⟩
  have G_law_root := Kx.ok_law_root (P := P) (w := w) (base := base) T (at_mk X G c (i := 49) 35 rfl rfl bd_law_root)
  have G_law_neighbour := Kx.ok_law_neighbour (P := P) (w := w) (base := base) T (at_mk X G c (i := 61) 46 rfl rfl bd_law_neighbour) G_law_root
  have G_law_ring := Kx.ok_law_ring (P := P) (w := w) (base := base) T (at_mk X G c (i := 62) 47 rfl rfl bd_law_ring) G_law_neighbour
  have G_law_is_reduced := Kx.ok_law_is_reduced (P := P) (w := w) (base := base) T (at_mk X G c (i := 60) 45 rfl rfl bd_law_is_reduced)
  have G_law_lowered := Kx.ok_law_lowered (P := P) (w := w) (base := base) T (at_mk X G c (i := 64) 49 rfl rfl bd_law_lowered) G_law_is_reduced G_law_root
  have G_law_worth := Kx.ok_law_worth (P := P) (w := w) (base := base) T (at_mk X G c (i := 52) 37 rfl rfl bd_law_worth)
  have G_law_act := Kx.ok_law_act (P := P) (w := w) (base := base) T (at_mk X G c (i := 53) 38 rfl rfl bd_law_act) G_law_worth
  have G_law_column := Kx.ok_law_column (P := P) (w := w) (base := base) T (at_mk X G c (i := 66) 51 rfl rfl bd_law_column)
  have G_law_measure := Kx.ok_law_measure (P := P) (w := w) (base := base) T (at_mk X G c (i := 65) 50 rfl rfl bd_law_measure)
  have G_law_split_least := Kx.ok_law_split_least (P := P) (w := w) (base := base) T (at_mk X G c (i := 67) 52 rfl rfl bd_law_split_least) G_law_act G_law_column G_law_measure G_law_root
  have G_law_positive := Kx.ok_law_positive (P := P) (w := w) (base := base) T (at_mk X G c (i := 63) 48 rfl rfl bd_law_positive)
  have G_law_square := Kx.ok_law_square (P := P) (w := w) (base := base) T (at_mk X G c (i := 55) 40 rfl rfl bd_law_square) G_law_root
  have G_law_kind := Kx.ok_law_kind (P := P) (w := w) (base := base) T (at_mk X G c (i := 56) 41 rfl rfl bd_law_kind) G_law_square
  have G_law_canonical := Kx.ok_law_canonical (P := P) (w := w) (base := base) T (at_mk X G c (i := 68) 53 rfl rfl bd_law_canonical) G_law_ring G_law_lowered G_law_split_least G_law_measure G_law_positive G_law_kind
  have G_law_leads := Kx.ok_law_leads (P := P) (w := w) (base := base) T (at_mk X G c (i := 70) 55 rfl rfl bd_law_leads) G_law_act
  have G_multiply := Kx.ok_multiply (P := P) (w := w) (base := base) T (at_mk X G c (i := 16) 11 rfl rfl bd_multiply)
  have G_determinant := Kx.ok_determinant (P := P) (w := w) (base := base) T (at_mk X G c (i := 17) 12 rfl rfl bd_determinant)
  have G_inverse := Kx.ok_inverse (P := P) (w := w) (base := base) T (at_mk X G c (i := 18) 13 rfl rfl bd_inverse) G_determinant
  have G_bezout := Kx.ok_bezout (P := P) (w := w) (base := base) T (at_mk X G c (i := 2) 0 rfl rfl bd_bezout)
  have G_floor_root := Kx.ok_floor_root (P := P) (w := w) (base := base) T (at_mk X G c (i := 4) 2 rfl rfl bd_floor_root)
  have G_divided := Kx.ok_divided (P := P) (w := w) (base := base) T (at_mk X G c (i := 12) 9 rfl rfl bd_divided)
  have G_measure := Kx.ok_measure (P := P) (w := w) (base := base) T (at_mk X G c (i := 3) 1 rfl rfl bd_measure) G_bezout
  have G_content := Kx.ok_content (P := P) (w := w) (base := base) T (at_mk X G c (i := 8) 5 rfl rfl bd_content) G_measure
  have G_flat_parts := Kx.ok_flat_parts (P := P) (w := w) (base := base) T (at_mk X G c (i := 36) 26 rfl rfl bd_flat_parts) G_floor_root G_divided G_content
  have G_canonical_flat := Kx.ok_canonical_flat (P := P) (w := w) (base := base) T (at_mk X G c (i := 37) 27 rfl rfl bd_canonical_flat) G_bezout G_flat_parts
  have G_primitive := Kx.ok_primitive (P := P) (w := w) (base := base) T (at_mk X G c (i := 32) 22 rfl rfl bd_primitive) G_measure
  have G_discriminant := Kx.ok_discriminant (P := P) (w := w) (base := base) T (at_mk X G c (i := 7) 4 rfl rfl bd_discriminant)
  have G_zero_lines := Kx.ok_zero_lines (P := P) (w := w) (base := base) T (at_mk X G c (i := 33) 23 rfl rfl bd_zero_lines) G_primitive G_floor_root G_discriminant
  have G_worth := Kx.ok_worth (P := P) (w := w) (base := base) T (at_mk X G c (i := 9) 6 rfl rfl bd_worth)
  have G_act := Kx.ok_act (P := P) (w := w) (base := base) T (at_mk X G c (i := 10) 7 rfl rfl bd_act) G_worth
  have G_leading := Kx.ok_leading (P := P) (w := w) (base := base) T (at_mk X G c (i := 34) 24 rfl rfl bd_leading) G_bezout
  have G_canonical_split := Kx.ok_canonical_split (P := P) (w := w) (base := base) T (at_mk X G c (i := 35) 25 rfl rfl bd_canonical_split) G_zero_lines G_act G_multiply G_leading G_floor_root G_discriminant
  have G_step_of := Kx.ok_step_of (P := P) (w := w) (base := base) T (at_mk X G c (i := 27) 18 rfl rfl bd_step_of) G_floor_root G_discriminant
  have G_cycle := Kx.ok_cycle (P := P) (w := w) (base := base) T (at_mk X G c (i := 29) 20 rfl rfl bd_cycle) G_multiply G_act G_step_of
  have G_is_reduced_indefinite := Kx.ok_is_reduced_indefinite (P := P) (w := w) (base := base) T (at_mk X G c (i := 25) 17 rfl rfl bd_is_reduced_indefinite) G_floor_root G_discriminant
  have G_reduce_indefinite := Kx.ok_reduce_indefinite (P := P) (w := w) (base := base) T (at_mk X G c (i := 28) 19 rfl rfl bd_reduce_indefinite) G_is_reduced_indefinite G_multiply G_act G_step_of
  have G_canonical := Kx.ok_canonical (P := P) (w := w) (base := base) T (at_mk X G c (i := 30) 21 rfl rfl bd_canonical) G_multiply G_cycle G_reduce_indefinite
  have G_scaled := Kx.ok_scaled (P := P) (w := w) (base := base) T (at_mk X G c (i := 11) 8 rfl rfl bd_scaled)
  have G_is_reduced_definite := Kx.ok_is_reduced_definite (P := P) (w := w) (base := base) T (at_mk X G c (i := 20) 14 rfl rfl bd_is_reduced_definite)
  have G_reduce_positive := Kx.ok_reduce_positive (P := P) (w := w) (base := base) T (at_mk X G c (i := 22) 15 rfl rfl bd_reduce_positive) G_is_reduced_definite G_multiply G_act
  have G_reduce_definite := Kx.ok_reduce_definite (P := P) (w := w) (base := base) T (at_mk X G c (i := 23) 16 rfl rfl bd_reduce_definite) G_scaled G_reduce_positive
  have G_is_square := Kx.ok_is_square (P := P) (w := w) (base := base) T (at_mk X G c (i := 5) 3 rfl rfl bd_is_square)
  have G_kind := Kx.ok_kind (P := P) (w := w) (base := base) T (at_mk X G c (i := 13) 10 rfl rfl bd_kind) G_is_square G_discriminant
  have G_canonical_form := Kx.ok_canonical_form (P := P) (w := w) (base := base) T (at_mk X G c (i := 40) 28 rfl rfl bd_canonical_form) G_canonical_flat G_canonical_split G_canonical G_reduce_definite G_kind
  have G_proper_change := Kx.ok_proper_change (P := P) (w := w) (base := base) T (at_mk X G c (i := 41) 29 rfl rfl bd_proper_change) G_multiply G_inverse G_canonical_form
  have G_mirrored_change := Kx.ok_mirrored_change (P := P) (w := w) (base := base) T (at_mk X G c (i := 42) 30 rfl rfl bd_mirrored_change) G_multiply G_proper_change G_act
  have G_law_of_nought := Kx.ok_law_of_nought (P := P) (w := w) (base := base) T (at_mk X G c (i := 71) 56 rfl rfl bd_law_of_nought) G_mirrored_change G_proper_change G_law_leads G_canonical_form
  have G_law_next := Kx.ok_law_next (P := P) (w := w) (base := base) T (at_mk X G c (i := 47) 34 rfl rfl bd_law_next)
  have G_law_flat := Kx.ok_law_flat (P := P) (w := w) (base := base) T (at_mk X G c (i := 58) 43 rfl rfl bd_law_flat) G_law_next
  have G_law_split := Kx.ok_law_split (P := P) (w := w) (base := base) T (at_mk X G c (i := 57) 42 rfl rfl bd_law_split) G_law_next
  have G_law_form := Kx.ok_law_form (P := P) (w := w) (base := base) T (at_mk X G c (i := 59) 44 rfl rfl bd_law_form) G_law_kind G_law_next G_law_flat G_law_split
  have G_law_mul := Kx.ok_law_mul (P := P) (w := w) (base := base) T (at_mk X G c (i := 50) 36 rfl rfl bd_law_mul)
  have G_law_change := Kx.ok_law_change (P := P) (w := w) (base := base) T (at_mk X G c (i := 54) 39 rfl rfl bd_law_change) G_law_next G_law_mul
  have G_law_other := Kx.ok_law_other (P := P) (w := w) (base := base) T (at_mk X G c (i := 69) 54 rfl rfl bd_law_other) G_law_next
  have G_law_numbers := Kx.ok_law_numbers (P := P) (w := w) (base := base) T (at_mk X G c (i := 45) 32 rfl rfl bd_law_numbers)
  have G_law_cell := Kx.ok_law_cell (P := P) (w := w) (base := base) T (at_mk X G c (i := 44) 31 rfl rfl bd_law_cell)
  have G_law_state := Kx.ok_law_state (P := P) (w := w) (base := base) T (at_mk X G c (i := 46) 33 rfl rfl bd_law_state) G_law_numbers G_law_cell
  exact Kx.ok_law T F2 G_law_canonical G_law_leads G_mirrored_change G_proper_change G_canonical_form G_law_of_nought G_law_next G_law_form G_law_act G_law_change G_law_other G_law_state
end Kh
open PySem PySem.W PySem.Calls PyProof.Rows
theorem PySem.Challenge.cw_wholeconic_k15_whole_alike_exactly_holds : PySem.Challenge.rw_wholeconic_k15_whole_alike_exactly.Holds := by
  w_on; o_law
  refine HandSHeadRun.head_imp (r := Kh.R) (q := view Kh.R.prog [0, 72]) (H := Kh.hk) (ob := Kh.ob) (M := 6000) (loose := Kh.loose) (d := HandSHeadRun.topDef Kh.R.prog 72) (kwd := []) Kh.ob_eq Kh.run
    (by kernel_rfl) (by kernel_rfl) (by kernel_rfl) (by rfl) (by first | assumption | decide +kernel) (by decide +kernel) ⟨rfl, rfl, rfl, rfl, rfl, by decide +kernel⟩ ?hw ?hc
  case hw => w_witness2
  case hc =>
    refine L2.walk_ofE (l := PySem.Challenge.rw_wholeconic_k15_whole_alike_exactly) (n := 63) (k := 10) (x := "_law_script") (CX := L2.CX0) rfl (by decide) (by kernel_rfl) ⟨rfl, by decide, by decide⟩ ?F (fun _ _ _ _ z => z)
    intro w mg fa h Y G hmg0
    obtain ⟨K, KX, c⟩ := Y
    have hmg : mg ("law" : PySem.Str) = some (.ref fa) := by
      have e : (HandSHeadRun.topDef Kh.R.prog 72).name = ("law" : PySem.Str) := by kernel_rfl
      rw [← e]
      exact hmg0
    obtain ⟨fd, hb, hF⟩ := Kh.law_ok (P := (PySem.Challenge.rw_wholeconic_k15_whole_alike_exactly).prog) (w := w) KX G c hmg
    refine ⟨K, fd, Kx.spP K Kx.Pre_law Kx.Post_law, KX, hb, fun H a ns hl _ hS => ?_, fun base _ _ => hF base⟩
    have all : ∀ ms : List Int, L2.DpAll K H (ms.map L2.V.int) (ms.map PyData.int) := fun ms => by
      induction ms with
      | nil => exact .nil
      | cons m r ih => exact .cons (.int m) ih
    exact ⟨H, [.list (ns.map .int)], fun _ _ q => q, .cons (.lst hS (all ns)) .nil, ⟨ns, rfl⟩, fun v F2 H2 d hd _ _ _ _ dv => by
      have e := hd ns rfl
      subst e
      exact Kx.dp_bl dv⟩
