import PyProof.Rows.All
import Wide.All
import OpenK.AllK
import Wide.FinOn
import HandS.ForMost
import HandS.IsInst
import HandS.Deep
import HandS.TupAny
import HandS.SortInts
import PySem.Challenge.RW_justtherest_k50_costs_over_rows
set_option Elab.async false
set_option linter.all false
set_option maxRecDepth 100000
set_option maxHeartbeats 4000000
/-! DL: functional readings over the hand layer: values are data (PyData), a def is a partial function on data. -/
namespace DL
open PySem L2

abbrev D := PyData
/-- what a slot holds: a datum that never changes; a list of one's own; a borrowed list -/
inductive S where
  | val (d : D) | own (ds : List D) | bor (ds : List D) | fro (ds : List D)
/-! what data a value is: lists are tracked, tuples tracked or written -/
mutual
inductive RP (K : PySem.W.Frag) (H : Hp) : V → PyData → Prop
  | non : RP K H .non .none
  | bl (b : Bool) : RP K H (.bl b) (.bool b)
  | int (i : Int) : RP K H (.int i) (.int i)
  | str (x : Str) : RP K H (.str x) (.str x)
  | lst {a : Addr} {xs : List V} {ds : List PyData} : H a = some (.lst xs) → RPs K H xs ds → RP K H (.ref a) (.list ds)
  | tup {a : Addr} {xs : List V} {ds : List PyData} : SqT K H a xs → RPs K H xs ds → RP K H (.ref a) (.tuple ds)
inductive RPs (K : PySem.W.Frag) (H : Hp) : List V → List PyData → Prop
  | nil : RPs K H [] []
  | cons {v : V} {vs : List V} {d : PyData} {ds : List PyData} : RP K H v d → RPs K H vs ds → RPs K H (v :: vs) (d :: ds)
end
mutual
theorem rp_dp {K : PySem.W.Frag} {H : Hp} : ∀ (d : D) (v : V), RP K H v d → Dp K H v d
  | .none, _, h => by cases h; exact .non
  | .bool b, _, h => by cases h; exact .bl b
  | .int i, _, h => by cases h; exact .int i
  | .str x, _, h => by cases h; exact .str x
  | .list ds, _, h => by
    cases h with
    | lst hs ha => exact .lst (SqL.of hs) (rps_dp ds _ ha)
  | .tuple ds, _, h => by
    cases h with
    | tup hs ha => exact .tup hs (rps_dp ds _ ha)
  | .dict _, _, h => by cases h
theorem rps_dp {K : PySem.W.Frag} {H : Hp} : ∀ (ds : List D) (vs : List V), RPs K H vs ds → DpAll K H vs ds
  | [], _, h => by cases h; exact .nil
  | d :: ds, _, h => by
    cases h with
    | cons h1 h2 => exact .cons (rp_dp d _ h1) (rps_dp ds _ h2)
end
abbrev En := List (Option S)
def S.mu : S → Bool
  | .val _ => false
  | .fro _ => false
  | _ => true
def S.d : S → D
  | .val d => d
  | .own ds => .list ds
  | .bor ds => .list ds
  | .fro ds => .list ds

theorem same_upd {H : Hp} {p : Addr} {o : HO} (h : H p = none) : Same H (upd H p o) := fun b x e => by
  rw [upd_ne (ne_of_none e h)]
  exact e
theorem same_t {K : PySem.W.Frag} {H H' : Hp} {a : Addr} {xs : List V} (e : Same H H') (h : SqT K H a xs) : SqT K H' a xs := by
  rcases h with (h | ⟨o, h⟩) | h
  · exact .inl (.inl (e _ _ h))
  · exact .inl (.inr ⟨o, e _ _ h⟩)
  · exact .inr h
mutual
theorem dp_mono {K : PySem.W.Frag} {G G' : Hp} (e : Same G G') : ∀ (d : D) (v : V), RP K G v d → RP K G' v d
  | .none, _, h => by cases h; exact .non
  | .bool b, _, h => by cases h; exact .bl b
  | .int i, _, h => by cases h; exact .int i
  | .str x, _, h => by cases h; exact .str x
  | .list ds, _, h => by
    cases h with
    | lst hs ha => exact .lst (e _ _ hs) (dps_mono e ds _ ha)
  | .tuple ds, _, h => by
    cases h with
    | tup hs ha => exact .tup (same_t e hs) (dps_mono e ds _ ha)
  | .dict _, _, h => by cases h
theorem dps_mono {K : PySem.W.Frag} {G G' : Hp} (e : Same G G') : ∀ (ds : List D) (vs : List V), RPs K G vs ds → RPs K G' vs ds
  | [], _, h => by cases h; exact .nil
  | d :: ds, _, h => by
    cases h with
    | cons h1 h2 => exact .cons (dp_mono e d _ h1) (dps_mono e ds _ h2)
end
section
variable {K : PySem.W.Frag} {G : Hp}
theorem dps_len : ∀ {vs : List V} {ds : List D}, RPs K G vs ds → vs.length = ds.length
  | _, [], h => by cases h; rfl
  | _, d :: ds, h => by
    cases h with
    | cons h1 h2 => simp [dps_len h2]
theorem dps_get : ∀ {vs : List V} {ds : List D} {i : Nat} {d : D}, RPs K G vs ds → ds[i]? = some d → ∃ v, vs[i]? = some v ∧ RP K G v d
  | _, [], i, d, h, e => by simp at e
  | _, d' :: ds, 0, d, h, e => by
    cases h with
    | cons h1 h2 =>
      have : d' = d := by simpa using e
      subst this
      exact ⟨_, rfl, h1⟩
  | _, d' :: ds, i + 1, d, h, e => by
    cases h with
    | cons h1 h2 =>
      obtain ⟨v, q, r⟩ := dps_get (i := i) (d := d) h2 (by simpa using e)
      exact ⟨v, by simpa using q, r⟩
theorem dps_getv : ∀ {vs : List V} {ds : List D} {i : Nat} {v : V}, RPs K G vs ds → vs[i]? = some v → ∃ d, ds[i]? = some d ∧ RP K G v d
  | _, [], i, v, h, e => by cases h; simp at e
  | _, d' :: ds, 0, v, h, e => by
    cases h with
    | @cons v' _ _ _ h1 h2 =>
      have : v' = v := by simpa using e
      subst this
      exact ⟨_, rfl, h1⟩
  | _, d' :: ds, i + 1, v, h, e => by
    cases h with
    | cons h1 h2 =>
      obtain ⟨d, q, r⟩ := dps_getv (i := i) (v := v) h2 (by simpa using e)
      exact ⟨d, by simpa using q, r⟩
theorem dps_app : ∀ {vs ws : List V} {ds es : List D}, RPs K G vs ds → RPs K G ws es → RPs K G (vs ++ ws) (ds ++ es)
  | _, _, [], _, h, k => by cases h; exact k
  | _, _, d :: ds, _, h, k => by
    cases h with
    | cons h1 h2 => exact .cons h1 (dps_app h2 k)
theorem dps_one {v : V} {d : D} (h : RP K G v d) : RPs K G [v] [d] := .cons h .nil
theorem dps_set : ∀ {vs : List V} {ds : List D} {v : V} {d : D} (i : Nat), RPs K G vs ds → RP K G v d → RPs K G (vs.set i v) (ds.set i d)
  | _, [], _, _, _, h, _ => by cases h; exact .nil
  | _, d' :: ds, v, d, 0, h, k => by
    cases h with
    | cons h1 h2 => exact .cons k h2
  | _, d' :: ds, v, d, i + 1, h, k => by
    cases h with
    | cons h1 h2 => exact .cons h1 (dps_set i h2 k)
theorem dps_drop : ∀ {vs : List V} {ds : List D} (n : Nat), RPs K G vs ds → RPs K G (vs.drop n) (ds.drop n)
  | _, _, 0, h => h
  | _, [], n + 1, h => by cases h; exact .nil
  | _, d :: ds, n + 1, h => by
    cases h with
    | cons h1 h2 => exact dps_drop n h2
theorem dps_take : ∀ {vs : List V} {ds : List D} (n : Nat), RPs K G vs ds → RPs K G (vs.take n) (ds.take n)
  | _, _, 0, h => .nil
  | _, [], n + 1, h => by cases h; exact .nil
  | _, d :: ds, n + 1, h => by
    cases h with
    | cons h1 h2 => exact .cons h1 (dps_take n h2)
theorem dps_rev : ∀ {vs : List V} {ds : List D}, RPs K G vs ds → RPs K G vs.reverse ds.reverse
  | _, [], h => by cases h; exact .nil
  | _, d :: ds, h => by
    cases h with
    | cons h1 h2 =>
      rw [List.reverse_cons, List.reverse_cons]
      exact dps_app (dps_rev h2) (dps_one h1)
theorem dps_dropLast {vs : List V} {ds : List D} (h : RPs K G vs ds) : RPs K G vs.dropLast ds.dropLast := by
  rw [List.dropLast_eq_take, List.dropLast_eq_take, dps_len h]
  exact dps_take _ h
theorem dps_rep {vs : List V} {ds : List D} (h : RPs K G vs ds) : ∀ k : Nat, RPs K G (List.replicate k vs).flatten (List.replicate k ds).flatten
  | 0 => .nil
  | k + 1 => by
    rw [List.replicate_succ, List.flatten_cons, List.replicate_succ, List.flatten_cons]
    exact dps_app h (dps_rep h k)
theorem dps_ints : ∀ {vs : List V} {ns : List Int}, RPs K G vs (ns.map PyData.int) → vs = ns.map V.int
  | _, [], h => by cases h; rfl
  | _, n :: ns, h => by
    cases h with
    | cons h1 h2 =>
      cases h1
      rw [dps_ints h2]
      rfl
theorem ints_dps : ∀ (ns : List Int), RPs K G (ns.map V.int) (ns.map PyData.int)
  | [] => .nil
  | n :: ns => .cons (.int n) (ints_dps ns)
theorem dps_bls : ∀ {vs : List V} {ns : List Bool}, RPs K G vs (ns.map PyData.bool) → vs = ns.map V.bl
  | _, [], h => by cases h; rfl
  | _, n :: ns, h => by
    cases h with
    | cons h1 h2 =>
      cases h1
      rw [dps_bls h2]
      rfl
theorem dp_int {v : V} {i : Int} (h : RP K G v (.int i)) : v = .int i := by cases h; rfl
theorem dp_bl {v : V} {i : Bool} (h : RP K G v (.bool i)) : v = .bl i := by cases h; rfl
theorem dp_str {v : V} {i : Str} (h : RP K G v (.str i)) : v = .str i := by cases h; rfl
theorem dp_non {v : V} (h : RP K G v .none) : v = .non := by cases h; rfl
theorem dp_lst {v : V} {ds : List D} (h : RP K G v (.list ds)) : ∃ a vs, v = .ref a ∧ G a = some (.lst vs) ∧ RPs K G vs ds := by
  cases h with
  | lst h1 h2 => exact ⟨_, _, rfl, h1, h2⟩
theorem dp_tup {v : V} {ds : List D} (h : RP K G v (.tuple ds)) : ∃ a vs, v = .ref a ∧ SqT K G a vs ∧ RPs K G vs ds := by
  cases h with
  | tup h1 h2 => exact ⟨_, _, rfl, h1, h2⟩
end

/-- a def's frame: what stood at its entry (B), the borrowed lists (L), where each stands (ba, by slot) -/
structure Fr where
  B : Hp
  L : Addr → Prop
  ba : Nat → Addr
def New (F : Fr) (a : Addr) : Prop := F.B a = none ∧ ¬ F.L a
def SR (K : PySem.W.Frag) (F : Fr) (G H : Hp) (i : Nat) (v : V) : S → Prop
  | .val d => RP K G v d
  | .own ds => ∃ a vs, v = .ref a ∧ New F a ∧ G a = none ∧ H a = some (.lst vs) ∧ RPs K G vs ds
  | .bor ds => ∃ vs, v = .ref (F.ba i) ∧ F.L (F.ba i) ∧ G (F.ba i) = none ∧ H (F.ba i) = some (.lst vs) ∧ RPs K G vs ds
  | .fro ds => ∃ a vs, v = .ref a ∧ SqL K G a vs ∧ RPs K G vs ds
structure ER (K : PySem.W.Frag) (F : Fr) (G H : Hp) (σ : L2.St) (ρ : En) : Prop where
  len : ρ.length = σ.length
  exB : Same F.B H
  exG : Same G H
  exL : ∀ a, F.L a → ∃ o, H a = some o
  nbL : ∀ a, F.L a → F.B a = none
  slot : ∀ (i : Nat) (s : S), ρ[i]? = some (some s) → ∃ v, σ[i]? = some (some v) ∧ SR K F G H i v s
  sep : ∀ (i j : Nat) (s t : S) (a : Addr), i ≠ j → ρ[i]? = some (some s) → ρ[j]? = some (some t) → s.mu = true → t.mu = true → σ[i]? = some (some (.ref a)) → σ[j]? = some (some (.ref a)) → False
structure Ext (F : Fr) (G G' : Hp) : Prop where
  ex : Same G G'
  new : ∀ a, G a = none → G' a ≠ none → New F a
def RR (K : PySem.W.Frag) (F : Fr) (G H : Hp) (σ : L2.St) (ρ : En) (v : V) : S → Prop
  | .val d => RP K G v d
  | .own ds => ∃ a vs, v = .ref a ∧ New F a ∧ G a = none ∧ H a = some (.lst vs) ∧ RPs K G vs ds ∧ ∀ (i : Nat) (s : S), ρ[i]? = some (some s) → s.mu = true → σ[i]? ≠ some (some (.ref a))
  | .bor _ => False
  | .fro _ => False
theorem Ext.refl (F : Fr) (G : Hp) : Ext F G G := ⟨fun _ _ h => h, fun _ h k => (k h).elim⟩
theorem Ext.trans {F : Fr} {G G1 G2 : Hp} (a : Ext F G G1) (b : Ext F G1 G2) : Ext F G G2 := ⟨fun x o h => b.ex x o (a.ex x o h), fun x h k => by
  cases q : G1 x with
  | none => exact b.new x q k
  | some o => exact a.new x h (by rw [q]; intro z; cases z)⟩
theorem Ext.upd {F : Fr} {G : Hp} {a : Addr} {o : HO} (h : G a = none) (n : New F a) : Ext F G (upd G a o) := ⟨same_upd h, fun b hb k => by
  by_cases e : b = a
  · rw [e]; exact n
  · rw [upd_ne e] at k
    exact (k hb).elim⟩
section
variable {K : PySem.W.Frag} {F : Fr} {G G' H : Hp} {σ : L2.St} {ρ : En} {v : V} {s : S}
theorem ER.fresh (E : ER K F G H σ ρ) {p : Addr} (h : H p = none) : New F p ∧ G p = none := by
  refine ⟨⟨?_, fun z => ?_⟩, ?_⟩
  · cases q : F.B p with
    | none => rfl
    | some o =>
      have := E.exB p o q
      rw [h] at this; cases this
  · obtain ⟨o, q⟩ := E.exL p z
    rw [h] at q; cases q
  · cases q : G p with
    | none => rfl
    | some o =>
      have := E.exG p o q
      rw [h] at this; cases this
/-- a slot's list is freed of its owner: G grows by it -/
theorem ER.grow (E : ER K F G H σ ρ) (x : Ext F G G') (g : Same G' H) (n : ∀ (i : Nat) (s : S) (a : Addr), ρ[i]? = some (some s) → s.mu = true → σ[i]? = some (some (.ref a)) → G' a = none) : ER K F G' H σ ρ := by
  refine ⟨E.len, E.exB, g, E.exL, E.nbL, fun i s e => ?_, E.sep⟩
  obtain ⟨v, q, r⟩ := E.slot i s e
  refine ⟨v, q, ?_⟩
  cases s with
  | val d => exact dp_mono x.ex d v r
  | own ds =>
    obtain ⟨a, vs, rfl, w, _, h, k⟩ := r
    exact ⟨a, vs, rfl, w, n i _ a e rfl q, h, dps_mono x.ex ds vs k⟩
  | bor ds =>
    obtain ⟨vs, rfl, w, _, h, k⟩ := r
    exact ⟨vs, rfl, w, n i _ _ e rfl q, h, dps_mono x.ex ds vs k⟩
  | fro ds =>
    obtain ⟨a, vs, rfl, h, k⟩ := r
    exact ⟨a, vs, rfl, x.ex.seq h, dps_mono x.ex ds vs k⟩
theorem RR.freeze (E : ER K F G H σ ρ) (r : RR K F G H σ ρ v s) : ∃ G', Ext F G G' ∧ ER K F G' H σ ρ ∧ RP K G' v s.d := by
  cases s with
  | val d => exact ⟨G, Ext.refl F G, E, r⟩
  | bor ds => exact r.elim
  | fro ds => exact r.elim
  | own ds =>
    obtain ⟨a, vs, rfl, w, g, h, k, sp⟩ := r
    have x : Ext F G (upd G a (.lst vs)) := Ext.upd g w
    refine ⟨_, x, E.grow x (fun b o e => ?_) (fun i s b e m q => ?_), .lst upd_same (dps_mono x.ex ds vs k)⟩
    · by_cases hb : b = a
      · subst hb
        rw [upd_same] at e
        cases e
        exact h
      · rw [upd_ne hb] at e
        exact E.exG b o e
    · have ne : b ≠ a := fun z => sp i s e m (by rw [← z]; exact q)
      rw [upd_ne ne]
      obtain ⟨v, q', r⟩ := E.slot i s e
      rw [q] at q'
      cases q'
      cases s with
      | val d => cases m
      | fro d => cases m
      | own ds =>
        obtain ⟨a', vs, e1, w, g, h, k⟩ := r
        cases e1
        exact g
      | bor ds =>
        obtain ⟨vs, e1, w, g, h, k⟩ := r
        cases e1
        exact g
/-- a slot forgotten -/
theorem ER.kill (E : ER K F G H σ ρ) (i : Nat) : ER K F G H σ (ρ.set i none) := by
  have key : ∀ (j : Nat) (s : S), (ρ.set i none)[j]? = some (some s) → ρ[j]? = some (some s) := fun j s e => by
    by_cases h : j = i
    · subst h
      by_cases hl : j < ρ.length
      · rw [List.getElem?_set_self hl] at e; cases e
      · rw [List.getElem?_eq_none (by simp; omega)] at e; cases e
    · rwa [List.getElem?_set_ne (Ne.symm h)] at e
  exact ⟨by simpa using E.len, E.exB, E.exG, E.exL, E.nbL, fun j s e => E.slot j s (key j s e), fun j k s t a h e1 e2 => E.sep j k s t a h (key j s e1) (key k t e2)⟩
/-- a slot set to a datum -/
theorem ER.setVal (E : ER K F G H σ ρ) (i : Nat) {d : D} (h : RP K G v d) : ER K F G H (σ.set i (some v)) (ρ.set i (some (.val d))) := by
  refine ⟨by simpa using E.len, E.exB, E.exG, E.exL, E.nbL, fun j s e => ?_, fun j k s t a hn e1 e2 m1 m2 q1 q2 => ?_⟩
  · by_cases hj : j = i
    · subst hj
      by_cases hl : j < ρ.length
      · rw [List.getElem?_set_self hl] at e
        cases e
        exact ⟨v, by rw [List.getElem?_set_self (by rw [← E.len]; exact hl)], h⟩
      · rw [List.getElem?_eq_none (by simp; omega)] at e; cases e
    · rw [List.getElem?_set_ne (Ne.symm hj)] at e
      obtain ⟨u, q, r⟩ := E.slot j s e
      exact ⟨u, by rw [List.getElem?_set_ne (Ne.symm hj)]; exact q, r⟩
  · have key : ∀ (j : Nat) (s : S), (ρ.set i (some (S.val d)))[j]? = some (some s) → s.mu = true → j ≠ i ∧ ρ[j]? = some (some s) := fun j s e m => by
      by_cases h : j = i
      · subst h
        by_cases hl : j < ρ.length
        · rw [List.getElem?_set_self hl] at e; cases e; cases m
        · rw [List.getElem?_eq_none (by simp; omega)] at e; cases e
      · rw [List.getElem?_set_ne (Ne.symm h)] at e
        exact ⟨h, e⟩
    obtain ⟨n1, f1⟩ := key j s e1 m1
    obtain ⟨n2, f2⟩ := key k t e2 m2
    rw [List.getElem?_set_ne (Ne.symm n1)] at q1
    rw [List.getElem?_set_ne (Ne.symm n2)] at q2
    exact E.sep j k s t a hn f1 f2 m1 m2 q1 q2
/-- a slot set to what has come -/
theorem ER.setRes (E : ER K F G H σ ρ) (i : Nat) (h : RR K F G H σ ρ v s) : ER K F G H (σ.set i (some v)) (ρ.set i (some s)) := by
  cases s with
  | val d => exact E.setVal i h
  | bor ds => exact h.elim
  | fro ds => exact h.elim
  | own ds =>
    obtain ⟨b, vs, rfl, w, g, hb, k, sp⟩ := h
    refine ⟨by simpa using E.len, E.exB, E.exG, E.exL, E.nbL, fun j s e => ?_, fun j k' s t a hn e1 e2 m1 m2 q1 q2 => ?_⟩
    · by_cases hj : j = i
      · subst hj
        by_cases hl : j < ρ.length
        · rw [List.getElem?_set_self hl] at e
          cases e
          exact ⟨_, by rw [List.getElem?_set_self (by rw [← E.len]; exact hl)], b, vs, rfl, w, g, hb, k⟩
        · rw [List.getElem?_eq_none (by simp; omega)] at e; cases e
      · rw [List.getElem?_set_ne (Ne.symm hj)] at e
        obtain ⟨u, q, r⟩ := E.slot j s e
        exact ⟨u, by rw [List.getElem?_set_ne (Ne.symm hj)]; exact q, r⟩
    · have out : ∀ (j : Nat) (s : S) (a : Addr), j ≠ i → (ρ.set i (some (S.own ds)))[j]? = some (some s) → s.mu = true → (σ.set i (some (V.ref b)))[j]? = some (some (.ref a)) → a ≠ b := fun j s a hj e m q z => by
        rw [List.getElem?_set_ne (Ne.symm hj)] at e q
        subst z
        exact sp j s e m q
      have inn : ∀ (j : Nat) (a : Addr), j = i → (σ.set i (some (V.ref b)))[j]? = some (some (.ref a)) → a = b := fun j a hj q => by
        subst hj
        by_cases hl : j < σ.length
        · rw [List.getElem?_set_self hl] at q; cases q; rfl
        · rw [List.getElem?_eq_none (by simp; omega)] at q; cases q
      by_cases hj : j = i
      · by_cases hk : k' = i
        · exact hn (hj.trans hk.symm)
        · exact out k' t a hk e2 m2 q2 (inn j a hj q1)
      · by_cases hk : k' = i
        · exact out j s a hj e1 m1 q1 (inn k' a hk q2)
        · rw [List.getElem?_set_ne (Ne.symm hj)] at e1 q1
          rw [List.getElem?_set_ne (Ne.symm hk)] at e2 q2
          exact E.sep j k' s t a hn e1 e2 m1 m2 q1 q2
/-- the heap grows by an object that is not known -/
theorem ER.alloc (E : ER K F G H σ ρ) {p : Addr} {o : HO} (hp : H p = none) : ER K F G (upd H p o) σ ρ := by
  have sx : Same H (upd H p o) := same_upd hp
  refine ⟨E.len, fun b u e => sx b u (E.exB b u e), fun b u e => sx b u (E.exG b u e), fun a ha => let ⟨u, e⟩ := E.exL a ha; ⟨u, sx a u e⟩, E.nbL, fun i s e => ?_, E.sep⟩
  obtain ⟨v, q, r⟩ := E.slot i s e
  refine ⟨v, q, ?_⟩
  cases s with
  | val d => exact r
  | own ds =>
    obtain ⟨a, vs, rfl, w, g, h, k⟩ := r
    exact ⟨a, vs, rfl, w, g, sx a _ h, k⟩
  | bor ds =>
    obtain ⟨vs, rfl, w, g, h, k⟩ := r
    exact ⟨vs, rfl, w, g, sx _ _ h, k⟩
  | fro ds => exact r
theorem ER.known (E : ER K F G H σ ρ) {i : Nat} {s : S} {a : Addr} (e : ρ[i]? = some (some s)) (m : s.mu = true) (q : σ[i]? = some (some (.ref a))) : G a = none ∧ ∃ vs, H a = some (.lst vs) ∧ RPs K G vs (match s with | .own ds => ds | .bor ds => ds | .val _ => [] | .fro _ => []) ∧ F.B a = none := by
  obtain ⟨v, q', r⟩ := E.slot i s e
  rw [q] at q'
  cases q'
  cases s with
  | val d => cases m
  | fro d => cases m
  | own ds =>
    obtain ⟨a', vs, e1, w, g, h, k⟩ := r
    cases e1
    exact ⟨g, vs, h, k, w.1⟩
  | bor ds =>
    obtain ⟨vs, e1, w, g, h, k⟩ := r
    cases e1
    exact ⟨g, vs, h, k, E.nbL _ w⟩
/-- a new tuple -/
theorem ER.newTup (E : ER K F G H σ ρ) {p : Addr} {vs : List V} {ds : List D} (hp : H p = none) (k : RPs K G vs ds) :
    Ext F G (upd G p (.tup vs)) ∧ ER K F (upd G p (.tup vs)) (upd H p (.tup vs)) σ ρ ∧ RP K (upd G p (.tup vs)) (.ref p) (.tuple ds) := by
  obtain ⟨n, g⟩ := E.fresh hp
  have x : Ext F G (upd G p (.tup vs)) := Ext.upd g n
  refine ⟨x, (E.alloc hp).grow x (fun b o e => ?_) (fun i s b e m q => ?_), .tup (SqT.of upd_same) (dps_mono x.ex ds vs k)⟩
  · by_cases hb : b = p
    · subst hb
      rw [upd_same] at e ⊢
      exact e
    · rw [upd_ne hb] at e ⊢
      exact E.exG b o e
  · obtain ⟨g1, vs', h1, _⟩ := E.known e m q
    have ne : b ≠ p := fun z => by rw [z, hp] at h1; cases h1
    rw [upd_ne ne]
    exact g1
/-- a new list -/
theorem ER.newLst (E : ER K F G H σ ρ) {p : Addr} {vs : List V} {ds : List D} (hp : H p = none) (k : RPs K G vs ds) :
    ER K F G (upd H p (.lst vs)) σ ρ ∧ RR K F G (upd H p (.lst vs)) σ ρ (.ref p) (.own ds) := by
  obtain ⟨n, g⟩ := E.fresh hp
  refine ⟨E.alloc hp, p, vs, rfl, n, g, upd_same, k, fun i s e m q => ?_⟩
  obtain ⟨g1, vs', h1, _⟩ := E.known e m q
  rw [hp] at h1; cases h1
/-- an own list changes -/
theorem ER.mutate (E : ER K F G H σ ρ) {i : Nat} {s s' : S} {a : Addr} {vs : List V} (e : ρ[i]? = some (some s)) (m : s.mu = true) (q : σ[i]? = some (some (.ref a)))
    (hs : match s, s' with | .own _, .own ds => RPs K G vs ds | .bor _, .bor ds => RPs K G vs ds | _, _ => False) : ER K F G (upd H a (.lst vs)) σ (ρ.set i (some s')) := by
  obtain ⟨g, vs0, h0, _, hB⟩ := E.known e m q
  have hi : i < ρ.length := (List.getElem?_eq_some_iff.mp e).1
  have m' : s'.mu = true := by
    cases s <;> cases s' <;> first | rfl | exact hs.elim
  have key : ∀ (j : Nat) (t : S), (ρ.set i (some s'))[j]? = some (some t) → (j = i ∧ t = s') ∨ (j ≠ i ∧ ρ[j]? = some (some t)) := fun j t z => by
    by_cases h : j = i
    · subst h
      rw [List.getElem?_set_self hi] at z
      cases z
      exact .inl ⟨rfl, rfl⟩
    · rw [List.getElem?_set_ne (Ne.symm h)] at z
      exact .inr ⟨h, z⟩
  refine ⟨by simpa using E.len, fun b u z => ?_, fun b u z => ?_, fun b z => ?_, E.nbL, fun j t z => ?_, fun j k t t' b hn z1 z2 m1 m2 q1 q2 => ?_⟩
  · rw [upd_ne (fun w => by rw [w, hB] at z; cases z)]
    exact E.exB b u z
  · rw [upd_ne (fun w => by rw [w, g] at z; cases z)]
    exact E.exG b u z
  · by_cases hb : b = a
    · exact ⟨_, by rw [hb, upd_same]⟩
    · rw [upd_ne hb]
      exact E.exL b z
  · rcases key j t z with ⟨rfl, rfl⟩ | ⟨hj, z'⟩
    · obtain ⟨v, q', r⟩ := E.slot j s e
      rw [q] at q'
      cases q'
      refine ⟨_, q, ?_⟩
      cases s with
      | val d => cases m
      | fro d => cases m
      | own ds =>
        cases t with
        | fro d => exact hs.elim
        | own ds' =>
          obtain ⟨a', vs', e1, w, g, h, k⟩ := r
          cases e1
          exact ⟨a, vs, rfl, w, g, upd_same, hs⟩
        | val d => exact hs.elim
        | bor d => exact hs.elim
      | bor ds =>
        cases t with
        | fro d => exact hs.elim
        | bor ds' =>
          obtain ⟨vs', e1, w, g, h, k⟩ := r
          cases e1
          exact ⟨vs, rfl, w, g, upd_same, hs⟩
        | val d => exact hs.elim
        | own d => exact hs.elim
    · obtain ⟨v, q', r⟩ := E.slot j t z'
      refine ⟨v, q', ?_⟩
      cases t with
      | val d => exact r
      | fro d => exact r
      | own ds =>
        obtain ⟨b, vs', rfl, w, g, h, k⟩ := r
        refine ⟨b, vs', rfl, w, g, ?_, k⟩
        rw [upd_ne (fun w' => E.sep j i _ s a hj z' e rfl m (by rw [← w']; exact q') q)]
        exact h
      | bor ds =>
        obtain ⟨vs', rfl, w, g, h, k⟩ := r
        refine ⟨vs', rfl, w, g, ?_, k⟩
        rw [upd_ne (fun w' => E.sep j i _ s a hj z' e rfl m (by rw [← w']; exact q') q)]
        exact h
  · rcases key j t z1 with ⟨rfl, rfl⟩ | ⟨hj, z1'⟩
    · rcases key k t' z2 with ⟨rfl, rfl⟩ | ⟨hk, z2'⟩
      · exact hn rfl
      · exact E.sep _ _ s t' b hn e z2' m m2 q1 q2
    · rcases key k t' z2 with ⟨rfl, rfl⟩ | ⟨hk, z2'⟩
      · exact E.sep _ _ t s b hn z1' e m1 m q1 q2
      · exact E.sep _ _ t t' b hn z1' z2' m1 m2 q1 q2
end
end DL

set_option Elab.async false
set_option linter.all false
set_option maxRecDepth 100000
set_option maxHeartbeats 4000000
namespace DL
open PySem L2

/-! ### readings of expressions -/
abbrev RE := En → Option (S × En)
abbrev RT := En → Option (Bool × En)
abbrev RA := En → Option (List D × En)
def EK (K : PySem.W.Frag) (F : Fr) (te : TE) (t : RE) : Prop :=
  ∀ (G H : Hp) (σ : L2.St) (ρ ρ' : En) (s : S), ER K F G H σ ρ → t ρ = some (s, ρ') → ∀ Q : VK, (∀ v G' H', Ext F G G' → ER K F G' H' σ ρ' → RR K F G' H' σ ρ' v s → Q v H') → te σ H Q
def TK (K : PySem.W.Frag) (F : Fr) (tt : TT) (t : RT) : Prop :=
  ∀ (G H : Hp) (σ : L2.St) (ρ ρ' : En) (b : Bool), ER K F G H σ ρ → t ρ = some (b, ρ') → ∀ Q : Bool → Hp → Prop, (∀ G' H', Ext F G G' → ER K F G' H' σ ρ' → Q b H') → tt σ H Q
def AK (K : PySem.W.Frag) (F : Fr) (ta : TA) (t : RA) : Prop :=
  ∀ (G H : Hp) (σ : L2.St) (ρ ρ' : En) (ds : List D), ER K F G H σ ρ → t ρ = some (ds, ρ') → ∀ Q : List V → Hp → Prop, (∀ vs G' H', Ext F G G' → ER K F G' H' σ ρ' → RPs K G' vs ds → Q vs H') → ta σ H Q
structure DE (K : PySem.W.Frag) (X : Cx) (e : Expr) (te : TE) (t : RE) : Prop where
  pe : PE X e te
  ek : ∀ F, EK K F te t
structure DT (K : PySem.W.Frag) (X : Cx) (e : Expr) (tt : TT) (t : RT) : Prop where
  pt : PT X e tt
  tk : ∀ F, TK K F tt t
structure DW (K : PySem.W.Frag) (X : Cx) (e : Expr) (tt : TT) (t : RT) : Prop where
  pw : PW X e tt
  tk : ∀ F, TK K F tt t
structure DA (K : PySem.W.Frag) (X : Cx) (es : List Expr) (ta : TA) (t : RA) : Prop where
  pa : PA X es ta
  ak : ∀ F, AK K F ta t
  len : ∀ ρ ds ρ', t ρ = some (ds, ρ') → ds.length = es.length
section
variable {K : PySem.W.Frag} {X : Cx} {F : Fr} {G H : Hp} {σ : L2.St} {ρ ρ' : En} {s : S} {te : TE} {t : RE} {e a b : Expr} {es : List Expr} {ta tb tc : TE} {rA rB rC : RE} {pos : Pos}
theorem EK.fz (h : EK K F te t) (E : ER K F G H σ ρ) (ht : t ρ = some (s, ρ')) {Q : VK} (q : ∀ v G' H', Ext F G G' → ER K F G' H' σ ρ' → RP K G' v s.d → Q v H') : te σ H Q :=
  h G H σ ρ ρ' s E ht Q fun v G' H' x E' r =>
    let ⟨G2, x2, E2, r2⟩ := r.freeze E'
    q v G2 H' (x.trans x2) E2 r2

/-! names, constants -/
def rdVar (i : Nat) : RE := fun ρ => match ρ[i]? with
  | some (some (.val d)) => some (.val d, ρ)
  | some (some (.own ds)) => some (.val (.list ds), ρ.set i (some (.val (.list ds))))
  | _ => none
/-- a slot's own list is given up -/
theorem ER.give (E : ER K F G H σ ρ) {i : Nat} {ds : List D} (e : ρ[i]? = some (some (.own ds))) : ∃ v G', σ[i]? = some (some v) ∧ Ext F G G' ∧ ER K F G' H σ (ρ.set i (some (.val (.list ds)))) ∧ RP K G' v (.list ds) := by
  obtain ⟨v, q, a, vs, rfl, w, g, h, k⟩ := E.slot i _ e
  have E1 := E.kill i
  have hi : i < ρ.length := (List.getElem?_eq_some_iff.mp e).1
  have r : RR K F G H σ (ρ.set i none) (.ref a) (.own ds) := ⟨a, vs, rfl, w, g, h, k, fun j t ej m q' => by
    by_cases hj : j = i
    · subst hj
      rw [List.getElem?_set_self hi] at ej; cases ej
    · rw [List.getElem?_set_ne (Ne.symm hj)] at ej
      exact E.sep j i t _ a hj ej e m rfl q' q⟩
  obtain ⟨G', x, E2, p⟩ := r.freeze E1
  refine ⟨_, G', q, x, ?_, p⟩
  have E3 := E2.setVal i p
  rw [List.set_set] at E3
  have hs : σ.set i (some (V.ref a)) = σ := by
    apply List.ext_getElem?
    intro j
    by_cases hj : j = i
    · subst hj
      rw [q, List.getElem?_set_self (by rw [← E.len]; exact hi)]
    · rw [List.getElem?_set_ne (Ne.symm hj)]
  rw [hs] at E3
  exact E3
theorem ek_var (i : Nat) : EK K F (tVar i) (rdVar i) := by
  intro G H σ ρ ρ' s E ht Q q
  unfold rdVar at ht
  split at ht
  · rename_i d e
    cases ht
    obtain ⟨v, q1, r⟩ := E.slot i _ e
    exact ⟨v, q1, q v G H (Ext.refl F G) E r⟩
  · rename_i ds e
    cases ht
    obtain ⟨v, G', q1, x, E', p⟩ := E.give e
    exact ⟨v, q1, q v G' H x E' p⟩
  · cases ht
theorem d_var (i : Nat) {x : Str} (hN : X.N[i]? = some x := by rfl) (hv : Vis X.env.scope x := by first | exact Or.inl rfl | exact Or.inr (Or.inl rfl) | exact Or.inr (Or.inr rfl)) (hd : (x == ("__debug__" : Str)) = false := by decide)
    (hcd : (x == ("__classdict__" : Str)) = false := by decide) : DE K X (.Name x pos) (tVar i) (rdVar i) := ⟨pe_var hN hv hd hcd, fun F => ek_var i⟩
def rdC (d : D) : RE := fun ρ => some (.val d, ρ)
theorem ek_c {v : V} {d : D} (h : ∀ G, RP K G v d) : EK K F (tC v) (rdC d) := by
  intro G H σ ρ ρ' s E ht Q q
  cases ht
  exact q v G H (Ext.refl F G) E (h G)
theorem d_int {i j} : DE K X (.Constant (.int i) j pos) (tC (.int i)) (rdC (.int i)) := ⟨pe_int, fun F => ek_c fun _ => .int i⟩
theorem d_bl {i j} : DE K X (.Constant (.bool i) j pos) (tC (.bl i)) (rdC (.bool i)) := ⟨pe_bl, fun F => ek_c fun _ => .bl i⟩
theorem d_non {j} : DE K X (.Constant .none j pos) (tC .non) (rdC .none) := ⟨pe_non, fun F => ek_c fun _ => .non⟩
theorem d_str {x j} : DE K X (.Constant (.str x) j pos) (tC (.str x)) (rdC (.str x)) := ⟨pe_str, fun F => ek_c fun _ => .str x⟩

/-! operators on values -/
def OpK (K : PySem.W.Frag) (r : R2) (f : D → D → Option S) : Prop :=
  ∀ (F : Fr) (G H : Hp) (σ : L2.St) (ρ : En) (x y : V) (d1 d2 : D) (s : S), ER K F G H σ ρ → RP K G x d1 → RP K G y d2 → f d1 d2 = some s →
    ∀ Q : VK, (∀ v G' H', Ext F G G' → ER K F G' H' σ ρ → RR K F G' H' σ ρ v s → Q v H') → r x y H Q
def rdBin (f : D → D → Option S) (ta tb : RE) : RE := fun ρ => (ta ρ).bind fun p => (tb p.2).bind fun q => (f p.1.d q.1.d).map fun s => (s, q.2)
theorem rdBin_some {f : D → D → Option S} (h : rdBin f rA rB ρ = some (s, ρ')) : ∃ s1 ρ1 s2, rA ρ = some (s1, ρ1) ∧ rB ρ1 = some (s2, ρ') ∧ f s1.d s2.d = some s := by
  unfold rdBin at h
  cases h1 : rA ρ with
  | none => rw [h1] at h; cases h
  | some p =>
    rw [h1] at h
    simp only [Option.bind_some] at h
    cases h2 : rB p.2 with
    | none => rw [h2] at h; cases h
    | some q =>
      rw [h2] at h
      simp only [Option.bind_some] at h
      cases h3 : f p.1.d q.1.d with
      | none => rw [h3] at h; cases h
      | some z =>
        rw [h3] at h
        simp only [Option.map_some, Option.some.injEq, Prod.mk.injEq] at h
        obtain ⟨rfl, rfl⟩ := h
        exact ⟨p.1, p.2, q.1, rfl, h2, h3⟩
theorem ek_op {r : R2} {f : D → D → Option S} (hk : OpK K r f) (ha : EK K F ta rA) (hb : EK K F tb rB) : EK K F (tOp r ta tb) (rdBin f rA rB) := by
  intro G H σ ρ ρ' s E ht Q q
  obtain ⟨s1, ρ1, s2, h1, h2, h3⟩ := rdBin_some ht
  refine ha.fz E h1 fun x G1 H1 x1 E1 p1 => hb.fz E1 h2 fun y G2 H2 x2 E2 p2 => ?_
  exact hk F G2 H2 σ ρ' x y _ _ s E2 (dp_mono x2.ex _ _ p1) p2 h3 Q fun v G' H' x3 E3 r3 => q v G' H' ((x1.trans x2).trans x3) E3 r3
/-- an operator package: its rule and its meaning -/
structure BOp (K : PySem.W.Frag) (X : Cx) (g : Value → Value → Sem Value) (r : R2) (f : D → D → Option S) : Prop where
  op : OpR X g r
  ok : OpK K r f
theorem d_bin {op : Operator} {r : R2} {f : D → D → Option S} (o : BOp K X (binaryOp op) r f) (ha : DE K X a ta rA) (hb : DE K X b tb rB) : DE K X (.BinOp a op b pos) (tOp r ta tb) (rdBin f rA rB) :=
  ⟨pe_op o.op ha.pe hb.pe, fun F => ek_op o.ok (ha.ek F) (hb.ek F)⟩
theorem d_cmp {op : CmpOp} {r : R2} {f : D → D → Option S} (o : BOp K X (compareOp op) r f) (ha : DE K X a ta rA) (hb : DE K X b tb rB) (hm : behindInMarks op b = false := by first | exact nomark _ | rfl) : DE K X (.Compare a [op] [b] pos) (tOp r ta tb) (rdBin f rA rB) :=
  ⟨pe_cmpR o.op ha.pe hb.pe hm, fun F => ek_op o.ok (ha.ek F) (hb.ek F)⟩
def rdTst (t : RE) : RT := fun ρ => (t ρ).bind fun p => match p.1 with
  | .val (.bool b) => some (b, p.2)
  | _ => none
theorem rdTst_some {b : Bool} (h : rdTst t ρ = some (b, ρ')) : t ρ = some (.val (.bool b), ρ') := by
  unfold rdTst at h
  cases h1 : t ρ with
  | none => rw [h1] at h; cases h
  | some p =>
    rw [h1] at h
    obtain ⟨p1, p2⟩ := p
    simp only [Option.bind_some] at h
    cases p1 with
    | val d => cases d <;> first | (cases h; done) | (cases h; rfl)
    | own d => cases h
    | bor d => cases h
    | fro d => cases h
theorem tk_tst (h : EK K F te t) : TK K F (tTest te) (rdTst t) := by
  intro G H σ ρ ρ' b E ht Q q
  refine h G H σ ρ ρ' _ E (rdTst_some ht) _ fun v G' H' x E' r => ?_
  exact ⟨b, dp_bl r, q G' H' x E'⟩
theorem tk_tB (h : EK K F te t) : TK K F (tB te) (rdTst t) := by
  intro G H σ ρ ρ' b E ht Q q
  refine h G H σ ρ ρ' _ E (rdTst_some ht) _ fun v G' H' x E' r => ?_
  exact ⟨b, dp_bl r, q G' H' x E'⟩
theorem d_tcmp {op : CmpOp} {r : R2} {f : D → D → Option S} (o : BOp K X (compareOp op) r f) (ha : DE K X a ta rA) (hb : DE K X b tb rB) (hm : behindInMarks op b = false := by first | exact nomark _ | rfl) : DT K X (.Compare a [op] [b] pos) (tTest (tOp r ta tb)) (rdTst (rdBin f rA rB)) :=
  ⟨pt_cmpR o.op ha.pe hb.pe hm, fun F => tk_tst (ek_op o.ok (ha.ek F) (hb.ek F))⟩
theorem d_tval (h : DE K X e te t) (he : ∀ whole, isTrue e X.env whole = (do let v ← whole; standAt e.pos; holding [v] (truthy v)) := by intro _; rfl) : DT K X e (tB te) (rdTst t) :=
  ⟨pt_val h.pe he, fun F => tk_tB (h.ek F)⟩
/-- a comparison whose value is a rule of its own -/
theorem d_tcmpc {op : CmpOp} (h : PC X op a b te) (hk : ∀ F, EK K F te t) (hm : behindInMarks op b = false := by first | exact nobehind _ (by decide) (by decide) | rfl) : DT K X (.Compare a [op] [b] pos) (tB te) (rdTst t) :=
  ⟨pt_cmp h hm, fun F => tk_tB (hk F)⟩
/-! is None -/
def rdIsN (neg : Bool) (ta : RE) : RE := fun ρ => (ta ρ).map fun p => (.val (.bool (match p.1.d with | .none => !neg | _ => neg)), p.2)
theorem ek_isN (ha : EK K F ta rA) : EK K F (tIsN ta) (rdIsN false rA) := by
  intro G H σ ρ ρ' s E ht Q q
  unfold rdIsN at ht
  cases h1 : rA ρ with
  | none => rw [h1] at ht; cases ht
  | some p =>
    rw [h1] at ht
    simp only [Option.map_some, Option.some.injEq, Prod.mk.injEq] at ht
    obtain ⟨rfl, rfl⟩ := ht
    refine ha.fz E (s := p.1) (ρ' := p.2) h1 fun v G' H' x E' r => ?_
    refine q _ G' H' x E' ?_
    generalize p.1.d = d at r ⊢
    cases r <;> exact .bl _
theorem ek_notN (ha : EK K F ta rA) : EK K F (tNotN ta) (rdIsN true rA) := by
  intro G H σ ρ ρ' s E ht Q q
  unfold rdIsN at ht
  cases h1 : rA ρ with
  | none => rw [h1] at ht; cases ht
  | some p =>
    rw [h1] at ht
    simp only [Option.map_some, Option.some.injEq, Prod.mk.injEq] at ht
    obtain ⟨rfl, rfl⟩ := ht
    refine ha.fz E (s := p.1) (ρ' := p.2) h1 fun v G' H' x E' r => ?_
    refine q _ G' H' x E' ?_
    generalize p.1.d = d at r ⊢
    cases r <;> exact .bl _
theorem d_isN {j pos'} (ha : DE K X a ta rA) : DE K X (.Compare a [.Is] [.Constant .none j pos'] pos) (tIsN ta) (rdIsN false rA) := ⟨pe_cmp (pc_isN ha.pe), fun F => ek_isN (ha.ek F)⟩
theorem d_notN {j pos'} (ha : DE K X a ta rA) : DE K X (.Compare a [.IsNot] [.Constant .none j pos'] pos) (tNotN ta) (rdIsN true rA) := ⟨pe_cmp (pc_notN ha.pe), fun F => ek_notN (ha.ek F)⟩
theorem d_tisN {j pos'} (ha : DE K X a ta rA) : DT K X (.Compare a [.Is] [.Constant .none j pos'] pos) (tB (tIsN ta)) (rdTst (rdIsN false rA)) := d_tcmpc (pc_isN ha.pe) fun F => ek_isN (ha.ek F)
theorem d_tnotN {j pos'} (ha : DE K X a ta rA) : DT K X (.Compare a [.IsNot] [.Constant .none j pos'] pos) (tB (tNotN ta)) (rdTst (rdIsN true rA)) := d_tcmpc (pc_notN ha.pe) fun F => ek_notN (ha.ek F)

/-! and, or, not -/
variable {tA tB' : TT} {uA uB : RT} {rest : List Expr}
def rtAnd (t u : RT) : RT := fun ρ => (t ρ).bind fun p => if p.1 = true then u p.2 else some (false, p.2)
def rtOr (t u : RT) : RT := fun ρ => (t ρ).bind fun p => if p.1 = true then some (true, p.2) else u p.2
def rtNot (t : RT) : RT := fun ρ => (t ρ).map fun p => (!p.1, p.2)
theorem tk_and (ha : TK K F tA uA) (hb : TK K F tB' uB) : TK K F (tAnd tA tB') (rtAnd uA uB) := by
  intro G H σ ρ ρ' b E ht Q q
  unfold rtAnd at ht
  cases h1 : uA ρ with
  | none => rw [h1] at ht; cases ht
  | some p =>
    rw [h1] at ht
    obtain ⟨c, ρ1⟩ := p
    simp only [Option.bind_some] at ht
    refine ha G H σ ρ ρ1 c E h1 _ fun G1 H1 x1 E1 => ?_
    cases c with
    | true =>
      rw [if_pos rfl] at ht ⊢
      exact hb G1 H1 σ ρ1 ρ' b E1 ht Q fun G2 H2 x2 E2 => q G2 H2 (x1.trans x2) E2
    | false =>
      rw [if_neg Bool.false_ne_true] at ht ⊢
      cases ht
      exact q G1 H1 x1 E1
theorem tk_or (ha : TK K F tA uA) (hb : TK K F tB' uB) : TK K F (tOr tA tB') (rtOr uA uB) := by
  intro G H σ ρ ρ' b E ht Q q
  unfold rtOr at ht
  cases h1 : uA ρ with
  | none => rw [h1] at ht; cases ht
  | some p =>
    rw [h1] at ht
    obtain ⟨c, ρ1⟩ := p
    simp only [Option.bind_some] at ht
    refine ha G H σ ρ ρ1 c E h1 _ fun G1 H1 x1 E1 => ?_
    cases c with
    | false =>
      rw [if_neg Bool.false_ne_true] at ht ⊢
      exact hb G1 H1 σ ρ1 ρ' b E1 ht Q fun G2 H2 x2 E2 => q G2 H2 (x1.trans x2) E2
    | true =>
      rw [if_pos rfl] at ht ⊢
      cases ht
      exact q G1 H1 x1 E1
theorem tk_not (ha : TK K F tA uA) : TK K F (tNot tA) (rtNot uA) := by
  intro G H σ ρ ρ' b E ht Q q
  unfold rtNot at ht
  cases h1 : uA ρ with
  | none => rw [h1] at ht; cases ht
  | some p =>
    rw [h1] at ht
    obtain ⟨c, ρ1⟩ := p
    simp only [Option.map_some, Option.some.injEq, Prod.mk.injEq] at ht
    obtain ⟨rfl, rfl⟩ := ht
    exact ha G H σ ρ _ c E h1 _ fun G1 H1 x1 E1 => q G1 H1 x1 E1
theorem d_tand (ha : DT K X a tA uA) (hb : DW K X (.BoolOp .And (b :: rest) pos) tB' uB) : DW K X (.BoolOp .And (a :: b :: rest) pos) (tAnd tA tB') (rtAnd uA uB) := ⟨pw_and ha.pt hb.pw, fun F => tk_and (ha.tk F) (hb.tk F)⟩
theorem d_tor (ha : DT K X a tA uA) (hb : DW K X (.BoolOp .Or (b :: rest) pos) tB' uB) : DW K X (.BoolOp .Or (a :: b :: rest) pos) (tOr tA tB') (rtOr uA uB) := ⟨pw_or ha.pt hb.pw, fun F => tk_or (ha.tk F) (hb.tk F)⟩
theorem d_tand1 (ha : DT K X a tA uA) : DW K X (.BoolOp .And [a] pos) tA uA := ⟨pw_and1 ha.pt, ha.tk⟩
theorem d_tor1 (ha : DT K X a tA uA) : DW K X (.BoolOp .Or [a] pos) tA uA := ⟨pw_or1 ha.pt, ha.tk⟩
theorem d_tw (h : DW K X e tA uA) : DT K X e tA uA := ⟨h.pw.pt, h.tk⟩
theorem d_tnot (ha : DT K X a tA uA) : DT K X (.UnaryOp .Not a pos) (tNot tA) (rtNot uA) := ⟨pt_not ha.pt, fun F => tk_not (ha.tk F)⟩
/-! .. as values -/
def rdB (t : RT) : RE := fun ρ => (t ρ).map fun p => (.val (.bool p.1), p.2)
def rdAnd (t u : RE) : RE := fun ρ => (rdTst t ρ).bind fun p => if p.1 = true then u p.2 else some (.val (.bool false), p.2)
def rdOr (t u : RE) : RE := fun ρ => (rdTst t ρ).bind fun p => if p.1 = true then some (.val (.bool true), p.2) else u p.2
def rdNot (t : RE) : RE := fun ρ => (rdTst t ρ).map fun p => (.val (.bool (!p.1)), p.2)
theorem ek_and (ha : EK K F ta rA) (hb : EK K F tb rB) : EK K F (tAndV ta tb) (rdAnd rA rB) := by
  intro G H σ ρ ρ' s E ht Q q
  unfold rdAnd at ht
  cases h1 : rdTst rA ρ with
  | none => rw [h1] at ht; cases ht
  | some p =>
    rw [h1] at ht
    obtain ⟨c, ρ1⟩ := p
    simp only [Option.bind_some] at ht
    refine ha G H σ ρ ρ1 _ E (rdTst_some h1) _ fun v G1 H1 x1 E1 r1 => ⟨c, dp_bl r1, ?_⟩
    cases c with
    | true =>
      rw [if_pos rfl] at ht ⊢
      exact hb G1 H1 σ ρ1 ρ' s E1 ht Q fun v G2 H2 x2 E2 r2 => q v G2 H2 (x1.trans x2) E2 r2
    | false =>
      rw [if_neg Bool.false_ne_true] at ht ⊢
      cases ht
      exact q _ G1 H1 x1 E1 (.bl false)
theorem ek_or (ha : EK K F ta rA) (hb : EK K F tb rB) : EK K F (tOrV ta tb) (rdOr rA rB) := by
  intro G H σ ρ ρ' s E ht Q q
  unfold rdOr at ht
  cases h1 : rdTst rA ρ with
  | none => rw [h1] at ht; cases ht
  | some p =>
    rw [h1] at ht
    obtain ⟨c, ρ1⟩ := p
    simp only [Option.bind_some] at ht
    refine ha G H σ ρ ρ1 _ E (rdTst_some h1) _ fun v G1 H1 x1 E1 r1 => ⟨c, dp_bl r1, ?_⟩
    cases c with
    | false =>
      rw [if_neg Bool.false_ne_true] at ht ⊢
      exact hb G1 H1 σ ρ1 ρ' s E1 ht Q fun v G2 H2 x2 E2 r2 => q v G2 H2 (x1.trans x2) E2 r2
    | true =>
      rw [if_pos rfl] at ht ⊢
      cases ht
      exact q _ G1 H1 x1 E1 (.bl true)
theorem ek_not (ha : EK K F ta rA) : EK K F (tNotV ta) (rdNot rA) := by
  intro G H σ ρ ρ' s E ht Q q
  unfold rdNot at ht
  cases h1 : rdTst rA ρ with
  | none => rw [h1] at ht; cases ht
  | some p =>
    rw [h1] at ht
    obtain ⟨c, ρ1⟩ := p
    simp only [Option.map_some, Option.some.injEq, Prod.mk.injEq] at ht
    obtain ⟨rfl, rfl⟩ := ht
    exact ha G H σ ρ _ _ E (rdTst_some h1) _ fun v G1 H1 x1 E1 r1 => ⟨c, dp_bl r1, q _ G1 H1 x1 E1 (.bl _)⟩
theorem d_and (ha : DE K X a ta rA) (hb : DE K X (.BoolOp .And (b :: rest) pos) tb rB) : DE K X (.BoolOp .And (a :: b :: rest) pos) (tAndV ta tb) (rdAnd rA rB) := ⟨pe_and ha.pe hb.pe, fun F => ek_and (ha.ek F) (hb.ek F)⟩
theorem d_or (ha : DE K X a ta rA) (hb : DE K X (.BoolOp .Or (b :: rest) pos) tb rB) : DE K X (.BoolOp .Or (a :: b :: rest) pos) (tOrV ta tb) (rdOr rA rB) := ⟨pe_or ha.pe hb.pe, fun F => ek_or (ha.ek F) (hb.ek F)⟩
theorem d_one {op} (ha : DE K X a ta rA) : DE K X (.BoolOp op [a] pos) ta rA := ⟨pe_one ha.pe, ha.ek⟩
theorem d_not (ha : DE K X a ta rA) : DE K X (.UnaryOp .Not a pos) (tNotV ta) (rdNot rA) := ⟨pe_not ha.pe, fun F => ek_not (ha.ek F)⟩
/-! a if t else b -/
def rdIf (c : RT) (t u : RE) : RE := fun ρ => (c ρ).bind fun p => if p.1 = true then t p.2 else u p.2
theorem ek_if (hc : TK K F tA uA) (ha : EK K F ta rA) (hb : EK K F tb rB) : EK K F (tIf tA ta tb) (rdIf uA rA rB) := by
  intro G H σ ρ ρ' s E ht Q q
  unfold rdIf at ht
  cases h1 : uA ρ with
  | none => rw [h1] at ht; cases ht
  | some p =>
    rw [h1] at ht
    obtain ⟨c, ρ1⟩ := p
    simp only [Option.bind_some] at ht
    refine hc G H σ ρ ρ1 c E h1 _ fun G1 H1 x1 E1 => ?_
    cases c with
    | true =>
      rw [if_pos rfl] at ht ⊢
      exact ha G1 H1 σ ρ1 ρ' s E1 ht Q fun v G2 H2 x2 E2 r2 => q v G2 H2 (x1.trans x2) E2 r2
    | false =>
      rw [if_neg Bool.false_ne_true] at ht ⊢
      exact hb G1 H1 σ ρ1 ρ' s E1 ht Q fun v G2 H2 x2 E2 r2 => q v G2 H2 (x1.trans x2) E2 r2
theorem d_if {c : Expr} (hc : DT K X c tA uA) (ha : DE K X a ta rA) (hb : DE K X b tb rB) : DE K X (.IfExp c a b pos) (tIf tA ta tb) (rdIf uA rA rB) := ⟨pe_ifExp hc.pt ha.pe hb.pe, fun F => ek_if (hc.tk F) (ha.ek F) (hb.ek F)⟩

/-! arguments, displays -/
variable {tas : TA} {rAs : RA}
def raNil : RA := fun ρ => some ([], ρ)
def raCons (t : RE) (u : RA) : RA := fun ρ => (t ρ).bind fun p => (u p.2).map fun q => (p.1.d :: q.1, q.2)
theorem ak_nil : AK K F tNil raNil := by
  intro G H σ ρ ρ' s E ht Q q
  cases ht
  exact q [] G H (Ext.refl F G) E .nil
theorem raCons_some {t : RE} {u : RA} {ds : List D} (h : raCons t u ρ = some (ds, ρ')) : ∃ s ρ1 es, t ρ = some (s, ρ1) ∧ u ρ1 = some (es, ρ') ∧ ds = s.d :: es := by
  unfold raCons at h
  cases h1 : t ρ with
  | none => rw [h1] at h; cases h
  | some p =>
    rw [h1] at h
    simp only [Option.bind_some] at h
    cases h2 : u p.2 with
    | none => rw [h2] at h; cases h
    | some q =>
      rw [h2] at h
      simp only [Option.map_some, Option.some.injEq, Prod.mk.injEq] at h
      obtain ⟨rfl, rfl⟩ := h
      exact ⟨p.1, p.2, q.1, rfl, h2, rfl⟩
theorem ak_cons (ha : EK K F ta rA) (hr : AK K F tas rAs) : AK K F (tCons ta tas) (raCons rA rAs) := by
  intro G H σ ρ ρ' ds E ht Q q
  obtain ⟨s, ρ1, es, h1, h2, rfl⟩ := raCons_some ht
  refine ha.fz E h1 fun x G1 H1 x1 E1 p1 => hr G1 H1 σ ρ1 ρ' es E1 h2 _ fun vs G2 H2 x2 E2 p2 => ?_
  exact q _ G2 H2 (x1.trans x2) E2 (.cons (dp_mono x2.ex _ _ p1) p2)
/-- how many arguments a reading has -/
def HasLen (t : RA) (n : Nat) : Prop := ∀ ρ ds ρ', t ρ = some (ds, ρ') → ds.length = n
theorem hl_nil : HasLen raNil 0 := fun ρ ds ρ' h => by cases h; rfl
theorem hl_cons {t : RE} {u : RA} {n : Nat} (h : HasLen u n) : HasLen (raCons t u) (n + 1) := fun ρ ds ρ' e => by
  obtain ⟨s, ρ1, es, h1, h2, rfl⟩ := raCons_some e
  simp [h _ _ _ h2]
theorem da_nil : DA K X [] tNil raNil := ⟨pa_nil, fun F => ak_nil, hl_nil⟩
theorem da_cons (ha : DE K X e te t) (hr : DA K X es tas rAs) (hs : starEach (e :: es) X.env = (false, eval e X.env) :: starEach es X.env := by rfl) : DA K X (e :: es) (tCons te tas) (raCons t rAs) :=
  ⟨pa_cons ha.pe hr.pa hs, fun F => ak_cons (ha.ek F) (hr.ak F), hl_cons hr.len⟩
def rdTup (t : RA) : RE := fun ρ => (t ρ).map fun p => (.val (.tuple p.1), p.2)
def rdLst (t : RA) : RE := fun ρ => (t ρ).map fun p => (.own p.1, p.2)
theorem rmap_some {α β : Type} {u : Option (α × En)} {g : α → β} {y : β} (h : (u.map fun p => (g p.1, p.2)) = some (y, ρ')) : ∃ x, u = some (x, ρ') ∧ y = g x := by
  cases u with
  | none => cases h
  | some p =>
    simp only [Option.map_some, Option.some.injEq, Prod.mk.injEq] at h
    obtain ⟨rfl, rfl⟩ := h
    exact ⟨p.1, rfl, rfl⟩
theorem ek_tup (h : AK K F tas rAs) (n : Nat) (hn : n ≤ sizeLine) (hl : ∀ ρ ds ρ', rAs ρ = some (ds, ρ') → ds.length = n) : EK K F (tTup tas) (rdTup rAs) := by
  intro G H σ ρ ρ' s E ht Q q
  unfold rdTup at ht
  obtain ⟨ds, h1, rfl⟩ := rmap_some (g := fun ds => S.val (.tuple ds)) ht
  refine h G H σ ρ ρ' ds E h1 _ fun vs G1 H1 x1 E1 p1 => ⟨by rw [dps_len p1, hl _ _ _ h1]; exact hn, fun p hp => ?_⟩
  obtain ⟨x2, E2, r2⟩ := E1.newTup hp p1
  exact q _ _ _ (x1.trans x2) E2 r2
theorem ek_lst (h : AK K F tas rAs) (n : Nat) (hn : n ≤ sizeLine) (hl : ∀ ρ ds ρ', rAs ρ = some (ds, ρ') → ds.length = n) : EK K F (tLst tas) (rdLst rAs) := by
  intro G H σ ρ ρ' s E ht Q q
  unfold rdLst at ht
  obtain ⟨ds, h1, rfl⟩ := rmap_some (g := fun ds => S.own ds) ht
  refine h G H σ ρ ρ' ds E h1 _ fun vs G1 H1 x1 E1 p1 => ⟨by rw [dps_len p1, hl _ _ _ h1]; exact hn, fun p hp => ?_⟩
  obtain ⟨E2, r2⟩ := E1.newLst hp p1
  exact q _ _ _ x1 E2 r2
theorem d_tup {x1} (h : DA K X es tas rAs) (hn : es.length ≤ 10000 := by decide) : DE K X (.Tuple es x1 pos) (tTup tas) (rdTup rAs) :=
  ⟨pe_tup h.pa, fun F => ek_tup (h.ak F) es.length (Nat.le_trans hn (by decide)) h.len⟩
theorem d_lst (h : DA K X es tas rAs) (hn : es.length ≤ 10000 := by decide) : DE K X (.List es pos) (tLst tas) (rdLst rAs) :=
  ⟨pe_lst h.pa, fun F => ek_lst (h.ak F) es.length (Nat.le_trans hn (by decide)) h.len⟩
end
end DL

set_option Elab.async false
set_option linter.all false
set_option maxRecDepth 100000
set_option maxHeartbeats 4000000
namespace DL
open PySem L2
section
variable {K : PySem.W.Frag} {X : Cx} {F : Fr} {G H : Hp} {σ : L2.St} {ρ ρ' : En} {s : S} {te : TE} {t : RE} {e a b c : Expr} {es : List Expr} {ta tb tc : TE} {rA rB rC : RE} {pos : Pos}
theorem OpK.or {r r' : R2} {f f' : D → D → Option S} (h : OpK K r f) (h' : OpK K r' f') : OpK K (fun x y H Q => r x y H Q ∨ r' x y H Q) (fun d e => (f d e).or (f' d e)) := by
  intro F G H σ ρ x y d1 d2 s E r1 r2 hf Q q
  have hf : (f d1 d2).or (f' d1 d2) = some s := hf
  cases h1 : f d1 d2 with
  | some s' =>
    rw [h1] at hf
    have e : s' = s := by simpa using hf
    subst e
    exact .inl (h F G H σ ρ x y d1 d2 s' E r1 r2 h1 Q q)
  | none =>
    rw [h1] at hf
    exact .inr (h' F G H σ ρ x y d1 d2 s E r1 r2 (by simpa using hf) Q q)
/-! ints -/
def fI (g : Int → Int → D) : D → D → Option S
  | .int i, .int j => some (.val (g i j))
  | _, _ => none
def fIc (C : Int → Int → Prop) [∀ i j, Decidable (C i j)] (g : Int → Int → D) : D → D → Option S
  | .int i, .int j => if C i j then some (.val (g i j)) else none
  | _, _ => none
theorem ok_I0 {g : Int → Int → V} {g' : Int → Int → D} (h : ∀ G i j, RP K G (g i j) (g' i j)) : OpK K (rI0 g) (fI g') := by
  intro F G H σ ρ x y d1 d2 s E r1 r2 hf Q q
  unfold fI at hf
  split at hf
  · cases hf
    exact ⟨_, _, dp_int r1, dp_int r2, q _ G H (Ext.refl F G) E (h G _ _)⟩
  · cases hf
theorem ok_I {C : Int → Int → Prop} [∀ i j, Decidable (C i j)] {C' : Int → Int → Prop} {g : Int → Int → V} {g' : Int → Int → D} (hC : ∀ i j, C i j → C' i j) (h : ∀ G i j, RP K G (g i j) (g' i j)) : OpK K (rI C' g) (fIc C g') := by
  intro F G H σ ρ x y d1 d2 s E r1 r2 hf Q q
  unfold fIc at hf
  split at hf
  · split at hf
    · rename_i hc
      cases hf
      exact ⟨_, _, dp_int r1, dp_int r2, hC _ _ hc, q _ G H (Ext.refl F G) E (h G _ _)⟩
    · cases hf
  · cases hf
def fCatL : D → D → Option S
  | .list xs, .list ys => if xs.length + ys.length ≤ sizeLine then some (.own (xs ++ ys)) else none
  | _, _ => none
def fCatT : D → D → Option S
  | .tuple xs, .tuple ys => if xs.length + ys.length ≤ sizeLine then some (.val (.tuple (xs ++ ys))) else none
  | _, _ => none
theorem ok_catL : OpK K rCat fCatL := by
  intro F G H σ ρ x y d1 d2 s E r1 r2 hf Q q
  unfold fCatL at hf
  split at hf
  · split at hf
    · rename_i hz
      cases hf
      obtain ⟨a, vs, rfl, ga, ra⟩ := dp_lst r1
      obtain ⟨b, ws, rfl, gb, rb⟩ := dp_lst r2
      refine ⟨a, b, vs, ws, rfl, rfl, E.exG _ _ ga, E.exG _ _ gb, by rw [dps_len ra, dps_len rb]; exact hz, fun p hp => ?_⟩
      obtain ⟨E2, r2⟩ := E.newLst hp (dps_app ra rb)
      exact q _ G _ (Ext.refl F G) E2 r2
    · cases hf
  · cases hf
theorem ok_catT : OpK K (rCatA K) fCatT := by
  intro F G H σ ρ x y d1 d2 s E r1 r2 hf Q q
  unfold fCatT at hf
  split at hf
  · rename_i xs ys
    split at hf
    · rename_i hz
      cases hf
      have r1' := r1
      have r2' := r2
      obtain ⟨a, vs, rfl, ga, ra⟩ := dp_tup r1
      obtain ⟨b, ws, rfl, gb, rb⟩ := dp_tup r2
      refine ⟨a, b, vs, ws, rfl, rfl, same_t E.exG ga, same_t E.exG gb, by rw [dps_len ra, dps_len rb]; exact hz, fun hv => ?_, fun _ hw => ?_, fun _ _ p hp => ?_⟩
      · subst hv
        cases ra
        exact q _ G H (Ext.refl F G) E r2'
      · subst hw
        cases rb
        rw [List.append_nil] at q
        exact q _ G H (Ext.refl F G) E r1'
      · obtain ⟨x2, E2, r2⟩ := E.newTup hp (dps_app ra rb)
        exact q _ _ _ x2 E2 r2
    · cases hf
  · cases hf
def fAdd : D → D → Option S := fun d e => (fI (fun i j => .int (i + j)) d e).or ((fCatL d e).or (fCatT d e))
theorem b_add (hK : X.K = K := by rfl) : BOp K X (binaryOp .Add) (fun x y H Q => rI0 (fun i j => .int (i + j)) x y H Q ∨ rCat x y H Q ∨ rCatA K x y H Q) fAdd := by
  subst hK
  exact ⟨op_add.or (op_cat.or op_catA), (ok_I0 fun _ _ _ => .int _).or (ok_catL.or ok_catT)⟩
theorem b_addI : BOp K X (binaryOp .Add) (rI0 fun i j => .int (i + j)) (fI fun i j => .int (i + j)) := ⟨op_add, ok_I0 fun _ _ _ => .int _⟩
theorem b_sub : BOp K X (binaryOp .Sub) (rI0 fun i j => .int (i - j)) (fI fun i j => .int (i - j)) := ⟨op_sub, ok_I0 fun _ _ _ => .int _⟩
theorem b_mul : BOp K X (binaryOp .Mult) (rI CMul fun i j => .int (i * j)) (fIc (fun i j => (-(2 ^ 64) < i ∧ i < 2 ^ 64) ∨ (-(2 ^ 64) < j ∧ j < 2 ^ 64)) fun i j => .int (i * j)) := ⟨op_mul, ok_I (fun _ _ h => h) fun _ _ _ => .int _⟩
def fRep : D → D → Option S
  | .list xs, .int k => if k < 2 ^ 63 ∧ -(2 ^ 63) ≤ k ∧ xs.length * k.toNat ≤ sizeLine then some (.own (List.replicate k.toNat xs).flatten) else none
  | _, _ => none
theorem b_rep : BOp K X (binaryOp .Mult) rRep fRep := by
  refine ⟨op_rep, ?_⟩
  intro F G H σ ρ x y d1 d2 s E r1 r2 hf Q q
  unfold fRep at hf
  split at hf
  · split at hf
    · rename_i hz
      cases hf
      obtain ⟨a, vs, rfl, ga, ra⟩ := dp_lst r1
      refine ⟨a, _, vs, rfl, dp_int r2, E.exG _ _ ga, hz.2.1, hz.1, by rw [dps_len ra]; exact hz.2.2, fun p hp => ?_⟩
      obtain ⟨E2, r2⟩ := E.newLst hp (dps_rep ra _)
      exact q _ G _ (Ext.refl F G) E2 r2
    · cases hf
  · cases hf
theorem b_fdiv : BOp K X (binaryOp .FloorDiv) (rI CDiv fun i j => .int (i / j)) (fIc (fun _ j => 0 < j ∧ j < 1073741824) fun i j => .int (i / j)) := ⟨op_fdiv, ok_I (fun _ _ h => h) fun _ _ _ => .int _⟩
theorem b_mod : BOp K X (binaryOp .Mod) (rI (fun _ j => 0 < j) fun i j => .int (i % j)) (fIc (fun _ j => 0 < j) fun i j => .int (i % j)) := ⟨op_mod, ok_I (fun _ _ h => h) fun _ _ _ => .int _⟩
theorem b_pow : BOp K X (binaryOp .Pow) (rI CPow fun i j => .int (i ^ j.toNat)) (fIc (fun i j => 0 ≤ j ∧ j ≤ 1000000 ∧ i.natAbs < 2 ^ 64) fun i j => .int (i ^ j.toNat)) := ⟨op_pow, ok_I (fun _ _ h => h) fun _ _ _ => .int _⟩
theorem b_lt : BOp K X (compareOp .Lt) (rI0 fun i j => .bl (decide (i < j))) (fI fun i j => .bool (decide (i < j))) := ⟨op_lt, ok_I0 fun _ _ _ => .bl _⟩
theorem b_le : BOp K X (compareOp .LtE) (rI0 fun i j => .bl (decide (i ≤ j))) (fI fun i j => .bool (decide (i ≤ j))) := ⟨op_le, ok_I0 fun _ _ _ => .bl _⟩
theorem b_gt : BOp K X (compareOp .Gt) (rI0 fun i j => .bl (decide (j < i))) (fI fun i j => .bool (decide (j < i))) := ⟨op_gt, ok_I0 fun _ _ _ => .bl _⟩
theorem b_ge : BOp K X (compareOp .GtE) (rI0 fun i j => .bl (decide (j ≤ i))) (fI fun i j => .bool (decide (j ≤ i))) := ⟨op_ge, ok_I0 fun _ _ _ => .bl _⟩
/-! == and != of data -/
def fEq (neg : Bool) : D → D → Option S
  | .int i, .int j => some (.val (.bool (neg ^^ (i == j))))
  | .str i, .str j => some (.val (.bool (neg ^^ (i == j))))
  | .bool i, .bool j => some (.val (.bool (neg ^^ (i == j))))
  | d, e => if SeqAt.shaped d = true ∧ SeqAt.shaped e = true then some (.val (.bool (neg ^^ PyData.eqv d e))) else none
theorem ok_eqS : OpK K (fun x y H Q => rEq x y H Q ∨ rEqD K x y H Q) (fEq false) := by
  intro F G H σ ρ x y d1 d2 s E r1 r2 hf Q q
  unfold fEq at hf
  split at hf
  · cases hf
    rw [dp_int r1, dp_int r2]
    exact .inl ⟨rfl, q _ G H (Ext.refl F G) E (by rw [dec_int, Bool.false_xor]; exact .bl _)⟩
  · cases hf
    rw [dp_str r1, dp_str r2]
    exact .inl ⟨rfl, q _ G H (Ext.refl F G) E (by rw [dec_str, Bool.false_xor]; exact .bl _)⟩
  · cases hf
    rw [dp_bl r1, dp_bl r2]
    exact .inl ⟨rfl, q _ G H (Ext.refl F G) E (by rw [dec_bl, Bool.false_xor]; exact .bl _)⟩
  · split at hf
    · rename_i hh
      cases hf
      exact .inr ⟨d1, d2, rp_dp _ _ (dp_mono E.exG _ _ r1), rp_dp _ _ (dp_mono E.exG _ _ r2), hh.1, hh.2, q _ G H (Ext.refl F G) E (by rw [Bool.false_xor]; exact .bl _)⟩
    · cases hf
theorem ok_neS : OpK K (fun x y H Q => rNe x y H Q ∨ rNeD K x y H Q) (fEq true) := by
  intro F G H σ ρ x y d1 d2 s E r1 r2 hf Q q
  unfold fEq at hf
  split at hf
  · cases hf
    rw [dp_int r1, dp_int r2]
    exact .inl ⟨rfl, q _ G H (Ext.refl F G) E (by rw [dec_int, Bool.true_xor]; exact .bl _)⟩
  · cases hf
    rw [dp_str r1, dp_str r2]
    exact .inl ⟨rfl, q _ G H (Ext.refl F G) E (by rw [dec_str, Bool.true_xor]; exact .bl _)⟩
  · cases hf
    rw [dp_bl r1, dp_bl r2]
    exact .inl ⟨rfl, q _ G H (Ext.refl F G) E (by rw [dec_bl, Bool.true_xor]; exact .bl _)⟩
  · split at hf
    · rename_i hh
      cases hf
      exact .inr ⟨d1, d2, rp_dp _ _ (dp_mono E.exG _ _ r1), rp_dp _ _ (dp_mono E.exG _ _ r2), hh.1, hh.2, q _ G H (Ext.refl F G) E (by rw [Bool.true_xor]; exact .bl _)⟩
    · cases hf
theorem b_eq (hu : X.A.units + 65 < cLine) (hK : X.K = K := by rfl) : BOp K X (compareOp .Eq) (fun x y H Q => rEq x y H Q ∨ rEqD K x y H Q) (fEq false) := by
  subst hK
  exact ⟨op_eq.or (op_eqD (Nat.lt_of_succ_lt hu)), ok_eqS⟩
theorem b_ne (hu : X.A.units + 65 < cLine) (hK : X.K = K := by rfl) : BOp K X (compareOp .NotEq) (fun x y H Q => rNe x y H Q ∨ rNeD K x y H Q) (fEq true) := by
  subst hK
  exact ⟨op_ne.or (op_neD (Nat.lt_of_succ_lt hu)), ok_neS⟩
/-! in, not in: a list or a tuple of data -/
def rInA (K : PySem.W.Frag) (neg : Bool) : R2 := fun x y H Q => ∃ d ds, Dp K H x d ∧ (Dp K H y (.list ds) ∨ Dp K H y (.tuple ds)) ∧ SeqAt.shaped d = true ∧ SeqAt.shaped (.list ds) = true ∧ Q (.bl (neg ^^ (ds.any fun z => PyData.eqv z d))) H
theorem op_inA (hu : X.A.units + 65 < cLine) : OpR X (compareOp .In) (rInA X.K false) := by
  intro pins s σ H x y v u Q I rx ry h
  obtain ⟨d, ds, hd, he, sd, se, q⟩ := h
  rw [Bool.false_xor] at q
  obtain ⟨as, r1⟩ := Dp.reads I d x v hd rx
  rcases he with he | he
  · obtain ⟨bs, r2⟩ := Dp.reads I (.list ds) y u he ry
    exact SeqAt.in_list_reads r2 r1 (SeqAt.canLay_of_shaped se) (SeqAt.canLay_of_shaped sd) (PyProof.Rows.room_in_shaped sd hu) ⟨.bl _, H, I, rfl, q⟩
  · obtain ⟨bs, r2⟩ := Dp.reads I (.tuple ds) y u he ry
    exact SeqAt.in_tuple_reads r2 r1 (SeqAt.canLay_of_shaped se) (SeqAt.canLay_of_shaped sd) (PyProof.Rows.room_in_shaped sd hu) ⟨.bl _, H, I, rfl, q⟩
theorem op_notInA (hu : X.A.units + 65 < cLine) : OpR X (compareOp .NotIn) (rInA X.K true) := by
  intro pins s σ H x y v u Q I rx ry h
  obtain ⟨d, ds, hd, he, sd, se, q⟩ := h
  rw [Bool.true_xor] at q
  obtain ⟨as, r1⟩ := Dp.reads I d x v hd rx
  rcases he with he | he
  · obtain ⟨bs, r2⟩ := Dp.reads I (.list ds) y u he ry
    exact SeqAt.notIn_list_reads r2 r1 (SeqAt.canLay_of_shaped se) (SeqAt.canLay_of_shaped sd) (PyProof.Rows.room_in_shaped sd hu) ⟨.bl _, H, I, rfl, q⟩
  · obtain ⟨bs, r2⟩ := Dp.reads I (.tuple ds) y u he ry
    exact SeqAt.notIn_tuple_reads r2 r1 (SeqAt.canLay_of_shaped se) (SeqAt.canLay_of_shaped sd) (PyProof.Rows.room_in_shaped sd hu) ⟨.bl _, H, I, rfl, q⟩
def inD (d : D) (ds : List D) : Bool := ds.any fun z => PyData.eqv z d
def fIn (neg : Bool) : D → D → Option S
  | d, .list ds => if SeqAt.shaped d = true ∧ SeqAt.shaped (.list ds) = true then some (.val (.bool (neg ^^ inD d ds))) else none
  | d, .tuple ds => if SeqAt.shaped d = true ∧ SeqAt.shaped (.list ds) = true then some (.val (.bool (neg ^^ inD d ds))) else none
  | _, _ => none
theorem ok_in (neg : Bool) : OpK K (rInA K neg) (fIn neg) := by
  intro F G H σ ρ x y d1 d2 s E r1 r2 hf Q q
  unfold fIn at hf
  split at hf
  · split at hf
    · rename_i hz
      cases hf
      exact ⟨_, _, rp_dp _ _ (dp_mono E.exG _ _ r1), .inl (rp_dp _ _ (dp_mono E.exG _ _ r2)), hz.1, hz.2, q _ G H (Ext.refl F G) E (.bl _)⟩
    · cases hf
  · split at hf
    · rename_i hz
      cases hf
      exact ⟨_, _, rp_dp _ _ (dp_mono E.exG _ _ r1), .inr (rp_dp _ _ (dp_mono E.exG _ _ r2)), hz.1, hz.2, q _ G H (Ext.refl F G) E (.bl _)⟩
    · cases hf
  · cases hf
theorem b_in (hu : X.A.units + 65 < cLine) (hK : X.K = K := by rfl) : BOp K X (compareOp .In) (rInA K false) (fIn false) := by
  subst hK
  exact ⟨op_inA hu, ok_in false⟩
theorem b_notIn (hu : X.A.units + 65 < cLine) (hK : X.K = K := by rfl) : BOp K X (compareOp .NotIn) (rInA K true) (fIn true) := by
  subst hK
  exact ⟨op_notInA hu, ok_in true⟩
/-! a chain a < b <= c of ints -/
def rdChain (p p' : Int → Int → Bool) (ta tb tc : RE) : RE := fun ρ => (ta ρ).bind fun x => (tb x.2).bind fun y => match x.1.d, y.1.d with
  | .int i, .int j => if p i j = true then (tc y.2).bind fun z => (match z.1.d with | .int k => some (.val (.bool (p' j k)), z.2) | _ => none) else some (.val (.bool false), y.2)
  | _, _ => none
theorem ek_chain {p p' : Int → Int → Bool} (ha : EK K F ta rA) (hb : EK K F tb rB) (hc : EK K F tc rC) :
    EK K F (tChain (rI0 fun i j => .bl (p i j)) (rI0 fun i j => .bl (p' i j)) ta tb tc) (rdChain p p' rA rB rC) := by
  intro G H σ ρ ρ' s E ht Q q
  unfold rdChain at ht
  cases h1 : rA ρ with
  | none => rw [h1] at ht; cases ht
  | some x1 =>
    rw [h1] at ht
    simp only [Option.bind_some] at ht
    cases h2 : rB x1.2 with
    | none => rw [h2] at ht; cases ht
    | some y1 =>
      rw [h2] at ht
      simp only [Option.bind_some] at ht
      refine ha.fz E (ρ' := x1.2) (s := x1.1) h1 fun x G1 H1 e1 E1 p1 => hb.fz E1 (ρ' := y1.2) (s := y1.1) h2 fun y G2 H2 e2 E2 p2 => ?_
      split at ht
      · rename_i i j ei ej
        rw [ei] at p1
        rw [ej] at p2
        refine ⟨i, j, dp_int p1, dp_int p2, _, rfl, ?_⟩
        by_cases hp : p i j = true
        · rw [if_pos hp] at ht ⊢
          cases h3 : rC y1.2 with
          | none => rw [h3] at ht; cases ht
          | some z1 =>
            rw [h3] at ht
            simp only [Option.bind_some] at ht
            refine hc.fz E2 (ρ' := z1.2) (s := z1.1) h3 fun z G3 H3 e3 E3 p3 => ?_
            split at ht
            · rename_i k ek
              cases ht
              rw [ek] at p3
              exact ⟨j, k, dp_int p2, dp_int p3, q _ G3 H3 ((e1.trans e2).trans e3) E3 (.bl _)⟩
            · cases ht
        · rw [if_neg hp] at ht ⊢
          cases ht
          exact q _ G2 H2 (e1.trans e2) E2 (.bl _)
      · cases ht
theorem d_chLeLt (ha : DE K X a ta rA) (hb : DE K X b tb rB) (hc : DE K X c tc rC) (hm : lastMarks [CmpOp.LtE, CmpOp.Lt] [b, c] = false := by with_unfolding_all rfl) :
    DE K X (.Compare a [.LtE, .Lt] [b, c] pos) (tChain (rI0 fun i j => .bl (decide (i ≤ j))) (rI0 fun i j => .bl (decide (i < j))) ta tb tc) (rdChain (fun i j => decide (i ≤ j)) (fun i j => decide (i < j)) rA rB rC) :=
  ⟨pe_chain op_le op_lt ha.pe hb.pe hc.pe hm, fun F => ek_chain (ha.ek F) (hb.ek F) (hc.ek F)⟩
/-! unary minus -/
def rdNeg (t : RE) : RE := fun ρ => (t ρ).bind fun p => match p.1.d with
  | .int i => some (.val (.int (-i)), p.2)
  | _ => none
theorem ek_neg (ha : EK K F ta rA) : EK K F (tUn (rU fun i => .int (-i)) ta) (rdNeg rA) := by
  intro G H σ ρ ρ' s E ht Q q
  unfold rdNeg at ht
  cases h1 : rA ρ with
  | none => rw [h1] at ht; cases ht
  | some p =>
    rw [h1] at ht
    simp only [Option.bind_some] at ht
    refine ha.fz E (ρ' := p.2) (s := p.1) h1 fun x G1 H1 e1 E1 p1 => ?_
    split at ht
    · rename_i i ei
      cases ht
      rw [ei] at p1
      exact ⟨i, dp_int p1, q _ G1 H1 e1 E1 (.int _)⟩
    · cases ht
theorem d_neg (ha : DE K X a ta rA) : DE K X (.UnaryOp .USub a pos) (tUn (rU fun i => .int (-i)) ta) (rdNeg rA) := ⟨pe_un un_neg ha.pe, fun F => ek_neg (ha.ek F)⟩

/-! subscripts -/
theorem at_rps {vs : List V} {ds : List D} {i : Int} {d : D} (h : RPs K G vs ds) (e : atI ds i = some d) : ∃ v, atI vs i = some v ∧ RP K G v d := by
  unfold atI at e ⊢
  rw [dps_len h]
  cases hj : ixN ds.length i with
  | none => rw [hj] at e; cases e
  | some j =>
    rw [hj] at e
    simp only [Option.bind_some] at e ⊢
    exact dps_get h e
def rIxA (K : PySem.W.Frag) : R2 := fun x y H Q => rIxL K x y H Q ∨ rIxT K x y H Q
def fIx : D → D → Option S
  | .list ds, .int i => (atI ds i).map .val
  | .tuple ds, .int i => (atI ds i).map .val
  | _, _ => none
theorem ok_ix : OpK K (rIxA K) fIx := by
  intro F G H σ ρ x y d1 d2 s E r1 r2 hf Q q
  unfold fIx at hf
  split at hf
  · rename_i ds i
    cases h : atI ds i with
    | none => rw [h] at hf; cases hf
    | some d =>
      rw [h] at hf
      cases hf
      obtain ⟨a, vs, rfl, ga, ra⟩ := dp_lst r1
      obtain ⟨v, hv, rv⟩ := at_rps ra h
      exact .inl ⟨a, vs, i, v, rfl, dp_int r2, SqL.of (E.exG _ _ ga), hv, q _ G H (Ext.refl F G) E rv⟩
  · rename_i ds i
    cases h : atI ds i with
    | none => rw [h] at hf; cases hf
    | some d =>
      rw [h] at hf
      cases hf
      obtain ⟨a, vs, rfl, ga, ra⟩ := dp_tup r1
      obtain ⟨v, hv, rv⟩ := at_rps ra h
      exact .inr ⟨a, vs, i, v, rfl, dp_int r2, same_t E.exG ga, hv, q _ G H (Ext.refl F G) E rv⟩
  · cases hf
theorem d_ix (ha : DE K X a ta rA) (hb : DE K X b tb rB) (hK : X.K = K := by rfl) (hs : PlainIx b := by exact fun _ _ => rfl) : DE K X (.Subscript a b pos) (tOp (rIxA K) ta tb) (rdBin fIx rA rB) := by
  subst hK
  exact ⟨pe_ix (ix_list.or ix_tup) ha.pe hb.pe hs, fun F => ek_op ok_ix (ha.ek F) (hb.ek F)⟩
/-- what a slot has to be looked at -/
def S.seq : S → Option (List D)
  | .val (.list ds) => some ds
  | .val (.tuple ds) => some ds
  | .own ds => some ds
  | .bor ds => some ds
  | .fro ds => some ds
  | _ => none
def seqAt (ρ : En) (i : Nat) : Option (List D) := match ρ[i]? with
  | some (some s) => s.seq
  | _ => none
theorem ER.seq (E : ER K F G H σ ρ) {i : Nat} {ds : List D} (h : seqAt ρ i = some ds) : ∃ a vs, σ[i]? = some (some (.ref a)) ∧ (SqL K H a vs ∨ SqT K H a vs) ∧ RPs K G vs ds := by
  unfold seqAt at h
  split at h
  · rename_i s e
    obtain ⟨v, q, r⟩ := E.slot i s e
    cases s with
    | val d =>
      cases d with
      | list xs =>
        cases h
        obtain ⟨a, vs, rfl, ga, ra⟩ := dp_lst r
        exact ⟨a, vs, q, .inl (SqL.of (E.exG _ _ ga)), ra⟩
      | tuple xs =>
        cases h
        obtain ⟨a, vs, rfl, ga, ra⟩ := dp_tup r
        exact ⟨a, vs, q, .inr (same_t E.exG ga), ra⟩
      | none => cases h
      | bool _ => cases h
      | int _ => cases h
      | str _ => cases h
      | dict _ => cases h
    | own xs =>
      cases h
      obtain ⟨a, vs, rfl, w, g, hh, k⟩ := r
      exact ⟨a, vs, q, .inl (SqL.of hh), k⟩
    | bor xs =>
      cases h
      obtain ⟨vs, rfl, w, g, hh, k⟩ := r
      exact ⟨_, vs, q, .inl (SqL.of hh), k⟩
    | fro xs =>
      cases h
      obtain ⟨a, vs, rfl, hh, k⟩ := r
      exact ⟨_, vs, q, .inl (E.exG.seq hh), k⟩
  · cases h
/-- name[i], the name's list staying its own -/
def rdIxV (i : Nat) (tb : RE) : RE := fun ρ => (seqAt ρ i).bind fun _ => (tb ρ).bind fun p => (seqAt p.2 i).bind fun ds => match p.1.d with
  | .int k => (atI ds k).map fun d => (.val d, p.2)
  | _ => none
theorem ek_ixV (i : Nat) (hb : EK K F tb rB) : EK K F (tOp (rIxA K) (tVar i) tb) (rdIxV i rB) := by
  intro G H σ ρ ρ' s E ht Q q
  unfold rdIxV at ht
  cases h0 : seqAt ρ i with
  | none => rw [h0] at ht; cases ht
  | some ds0 =>
    rw [h0] at ht
    simp only [Option.bind_some] at ht
    cases h1 : rB ρ with
    | none => rw [h1] at ht; cases ht
    | some p =>
      rw [h1] at ht
      simp only [Option.bind_some] at ht
      cases h2 : seqAt p.2 i with
      | none => rw [h2] at ht; cases ht
      | some ds =>
        rw [h2] at ht
        simp only [Option.bind_some] at ht
        obtain ⟨a, vs, qa, _, _⟩ := E.seq h0
        refine ⟨_, qa, hb.fz E (ρ' := p.2) (s := p.1) h1 fun x G1 H1 e1 E1 p1 => ?_⟩
        obtain ⟨a', vs', qa', hs, ra⟩ := E1.seq h2
        rw [qa] at qa'
        cases qa'
        split at ht
        · rename_i k ek
          rw [ek] at p1
          cases h3 : atI ds k with
          | none => rw [h3] at ht; cases ht
          | some d =>
            rw [h3] at ht
            cases ht
            obtain ⟨v, hv, rv⟩ := at_rps ra h3
            rcases hs with hs | hs
            · exact .inl ⟨a, vs', k, v, rfl, dp_int p1, hs, hv, q _ G1 H1 e1 E1 rv⟩
            · exact .inr ⟨a, vs', k, v, rfl, dp_int p1, hs, hv, q _ G1 H1 e1 E1 rv⟩
        · cases ht
theorem d_ixV (i : Nat) {x : Str} {px : Pos} (hb : DE K X b tb rB) (hK : X.K = K := by rfl) (hs : PlainIx b := by exact fun _ _ => rfl) (hN : X.N[i]? = some x := by rfl) (hv : Vis X.env.scope x := by first | exact Or.inl rfl | exact Or.inr (Or.inl rfl) | exact Or.inr (Or.inr rfl))
    (hd : (x == ("__debug__" : Str)) = false := by decide) (hcd : (x == ("__classdict__" : Str)) = false := by decide) : DE K X (.Subscript (.Name x px) b pos) (tOp (rIxA K) (tVar i) tb) (rdIxV i rB) := by
  subst hK
  exact ⟨pe_ix (ix_list.or ix_tup) (pe_var hN hv hd hcd) hb.pe hs, fun F => ek_ixV i (hb.ek F)⟩
/-! slices -/
def cutD (ds : List D) (lo hi : Option Int) : List D := (ds.drop (HT.sIx ds.length 0 lo)).take (HT.sIx ds.length ds.length hi - HT.sIx ds.length 0 lo)
theorem cut_rps {vs : List V} {ds : List D} (h : RPs K G vs ds) (lo hi : Option Int) : RPs K G (cutV vs lo hi) (cutD ds lo hi) := by
  unfold cutV cutD
  rw [dps_len h]
  exact dps_take _ (dps_drop _ h)
/-- a part of a slice -/
abbrev RO := En → Option (Option Int × En)
def roNone : RO := fun ρ => some (none, ρ)
def roSome (t : RE) : RO := fun ρ => (t ρ).bind fun p => match p.1.d with
  | .int i => some (some i, p.2)
  | _ => none
def OK (K : PySem.W.Frag) (F : Fr) (to : TO) (t : RO) : Prop :=
  ∀ (G H : Hp) (σ : L2.St) (ρ ρ' : En) (o : Option Int), ER K F G H σ ρ → t ρ = some (o, ρ') → ∀ Q : Option Int → Hp → Prop, (∀ G' H', Ext F G G' → ER K F G' H' σ ρ' → Q o H') → to σ H Q
structure DO (K : PySem.W.Frag) (X : Cx) (e : Option Expr) (to : TO) (t : RO) : Prop where
  po : PO X e to
  ok : ∀ F, OK K F to t
theorem do_none : DO K X none tNoPart roNone := ⟨po_none, fun F G H σ ρ ρ' o E ht Q q => by
  cases ht
  exact q G H (Ext.refl F G) E⟩
theorem ok_some (ha : EK K F ta rA) : OK K F (tPart ta) (roSome rA) := by
  intro G H σ ρ ρ' o E ht Q q
  unfold roSome at ht
  cases h1 : rA ρ with
  | none => rw [h1] at ht; cases ht
  | some p =>
    rw [h1] at ht
    simp only [Option.bind_some] at ht
    refine ha.fz E (ρ' := p.2) (s := p.1) h1 fun x G1 H1 e1 E1 p1 => ?_
    split at ht
    · rename_i i ei
      cases ht
      rw [ei] at p1
      exact ⟨i, dp_int p1, q G1 H1 e1 E1⟩
    · cases ht
theorem do_some (ha : DE K X a ta rA) : DO K X (some a) (tPart ta) (roSome rA) := ⟨po_some ha.pe, fun F => ok_some (ha.ek F)⟩
def fSl : D → Option Int → Option Int → Option S
  | .list ds, lo, hi => some (.own (cutD ds lo hi))
  | .tuple ds, lo, hi => some (.val (.tuple (cutD ds lo hi)))
  | _, _, _ => none
def rdSl (t : RE) (l u : RO) : RE := fun ρ => (t ρ).bind fun p => (l p.2).bind fun q => (u q.2).bind fun r => (fSl p.1.d q.1 r.1).map fun s => (s, r.2)
def rSlAll (K : PySem.W.Frag) : V → Option Int → Option Int → Hp → VK → Prop := fun x lo hi H Q => rSlL K x lo hi H Q ∨ rSlA K x lo hi H Q
variable {tl th : TO} {rL rH : RO} {lo hi : Option Expr}
theorem ek_sl (ha : EK K F ta rA) (hl : OK K F tl rL) (hh : OK K F th rH) : EK K F (tSl (rSlAll K) ta tl th) (rdSl rA rL rH) := by
  intro G H σ ρ ρ' s E ht Q q
  unfold rdSl at ht
  cases h1 : rA ρ with
  | none => rw [h1] at ht; cases ht
  | some p =>
    rw [h1] at ht
    simp only [Option.bind_some] at ht
    cases h2 : rL p.2 with
    | none => rw [h2] at ht; cases ht
    | some l =>
      rw [h2] at ht
      simp only [Option.bind_some] at ht
      cases h3 : rH l.2 with
      | none => rw [h3] at ht; cases ht
      | some u =>
        rw [h3] at ht
        simp only [Option.bind_some] at ht
        refine ha.fz E (ρ' := p.2) (s := p.1) h1 fun x G1 H1 e1 E1 p1 => hl G1 H1 σ p.2 l.2 l.1 E1 h2 _ fun G2 H2 e2 E2 => hh G2 H2 σ l.2 u.2 u.1 E2 h3 _ fun G3 H3 e3 E3 => ?_
        have p3 := dp_mono e3.ex _ _ (dp_mono e2.ex _ _ p1)
        have e13 := (e1.trans e2).trans e3
        cases h4 : fSl p.1.d l.1 u.1 with
        | none => rw [h4] at ht; cases ht
        | some s' =>
          rw [h4] at ht
          simp only [Option.map_some, Option.some.injEq, Prod.mk.injEq] at ht
          obtain ⟨rfl, rfl⟩ := ht
          unfold fSl at h4
          split at h4
          · rename_i ds ed
            cases h4
            rw [ed] at p3
            obtain ⟨a, vs, rfl, ga, ra⟩ := dp_lst p3
            refine .inl ⟨a, vs, rfl, SqL.of (E3.exG _ _ ga), fun pp hp => ?_⟩
            obtain ⟨E4, r4⟩ := E3.newLst hp (cut_rps ra _ _)
            exact q _ G3 _ e13 E4 r4
          · rename_i ds ed
            cases h4
            rw [ed] at p3
            have p4 := p3
            obtain ⟨a, vs, rfl, ga, ra⟩ := dp_tup p3
            refine .inr ⟨a, vs, rfl, same_t E3.exG ga, fun hw => ?_, fun _ pp hp => ?_⟩
            · have ew : cutD ds l.1 u.1 = ds := by
                unfold cutD
                rw [dps_len ra] at hw
                rw [hw.1, hw.2]
                simp
              refine q _ G3 H3 e13 E3 ?_
              show RP K G3 (.ref a) (.tuple (cutD ds l.1 u.1))
              rw [ew]
              exact p4
            · obtain ⟨x4, E4, r4⟩ := E3.newTup hp (cut_rps ra l.1 u.1)
              exact q _ _ _ (e13.trans x4) E4 r4
          · cases h4
theorem d_sl {p2 : Pos} (ha : DE K X a ta rA) (hl : DO K X lo tl rL) (hh : DO K X hi th rH) (hK : X.K = K := by rfl) : DE K X (.Subscript a (.Slice lo hi none p2) pos) (tSl (rSlAll K) ta tl th) (rdSl rA rL rH) := by
  subst hK
  exact ⟨pe_slice (sl_list.or sl_tupA) ha.pe hl.po hh.po, fun F => ek_sl (ha.ek F) (hl.ok F) (hh.ok F)⟩
end
end DL

set_option Elab.async false
set_option linter.all false
set_option maxRecDepth 100000
set_option maxHeartbeats 4000000
namespace DL
open PySem L2
section
variable {K : PySem.W.Frag} {X : Cx} {F : Fr} {G H : Hp} {σ : L2.St} {ρ ρ' : En} {s : S} {te : TE} {t : RE} {e a b c : Expr} {es : List Expr} {ta tb tc : TE} {rA rB rC : RE} {pos p : Pos} {tas : TA} {rAs : RA}
/-! ### built-in functions and types, called on data -/
def CaK (K : PySem.W.Frag) (r : List V → Hp → VK → Prop) (f : List D → Option S) : Prop :=
  ∀ (F : Fr) (G H : Hp) (σ : L2.St) (ρ : En) (vs : List V) (ds : List D) (s : S), ER K F G H σ ρ → RPs K G vs ds → f ds = some s →
    ∀ Q : VK, (∀ v G' H', Ext F G G' → ER K F G' H' σ ρ → RR K F G' H' σ ρ v s → Q v H') → r vs H Q
def rdCB (f : List D → Option S) (t : RA) : RE := fun ρ => (t ρ).bind fun p => (f p.1).map fun s => (s, p.2)
theorem ek_cb {r : List V → Hp → VK → Prop} {f : List D → Option S} (hc : CaK K r f) (ha : AK K F tas rAs) : EK K F (tCB r tas) (rdCB f rAs) := by
  intro G H σ ρ ρ' s E ht Q q
  unfold rdCB at ht
  cases h1 : rAs ρ with
  | none => rw [h1] at ht; cases ht
  | some p =>
    rw [h1] at ht
    simp only [Option.bind_some] at ht
    cases h2 : f p.1 with
    | none => rw [h2] at ht; cases ht
    | some s' =>
      rw [h2] at ht
      simp only [Option.map_some, Option.some.injEq, Prod.mk.injEq] at ht
      obtain ⟨rfl, rfl⟩ := ht
      refine ha G H σ ρ p.2 p.1 E h1 _ fun vs G1 H1 x1 E1 p1 => ?_
      exact hc F G1 H1 σ p.2 vs p.1 _ E1 p1 h2 Q fun v G' H' x2 E2 r2 => q v G' H' (x1.trans x2) E2 r2
/-- a built-in's package -/
structure BCa (K : PySem.W.Frag) (X : Cx) (v : Value) (r : List V → Hp → VK → Prop) (f : List D → Option S) : Prop where
  cr : CallR X v r
  ck : CaK K r f
theorem d_cb {x : Str} {id : String} {r : List V → Hp → VK → Prop} {f : List D → Option S} (o : BCa K X (.builtin id) r f) (hm : X.mg x = none) (hv : bootBuiltins x = some (.builtin id)) (ha : DA K X (e :: es) tas rAs) (hg : Gl X x := by rfl)
    (hn : x ≠ "__name__" := by decide) (hdb : (x == ("__debug__" : Str)) = false := by decide) (he : starEach (e :: es) X.env = (false, eval e X.env) :: starEach es X.env := by rfl) (hpl : (backTo pos (starEach es X.env)).any (·.1) = false := by rfl) :
    DE K X (.Call (.Name x p) (e :: es) [] pos) (tCB r tas) (rdCB f rAs) := ⟨pe_callB o.cr hg hm hv ha.pa hn hdb he hpl, fun F => ek_cb o.ck (ha.ak F)⟩
theorem d_ct {x : Str} {T : String} {r : List V → Hp → VK → Prop} {f : List D → Option S} (o : BCa K X (.type T) r f) (hm : X.mg x = none) (hv : bootBuiltins x = some (.type T)) (ha : DA K X (e :: es) tas rAs) (hg : Gl X x := by rfl)
    (hn : x ≠ "__name__" := by decide) (hdb : (x == ("__debug__" : Str)) = false := by decide) (he : starEach (e :: es) X.env = (false, eval e X.env) :: starEach es X.env := by rfl) (hpl : (backTo pos (starEach es X.env)).any (·.1) = false := by rfl) :
    DE K X (.Call (.Name x p) (e :: es) [] pos) (tCB r tas) (rdCB f rAs) := ⟨pe_callTy o.cr hg hm hv ha.pa hn hdb he hpl, fun F => ek_cb o.ck (ha.ak F)⟩
theorem rps1 {vs : List V} {d : D} (h : RPs K G vs [d]) : ∃ v, vs = [v] ∧ RP K G v d := by
  cases h with
  | cons h1 h2 => cases h2; exact ⟨_, rfl, h1⟩
theorem rps2 {vs : List V} {d d' : D} (h : RPs K G vs [d, d']) : ∃ v w, vs = [v, w] ∧ RP K G v d ∧ RP K G w d' := by
  cases h with
  | cons h1 h2 =>
    cases h2 with
    | cons h3 h4 => cases h4; exact ⟨_, _, rfl, h1, h3⟩
/-- a datum that is a list or a tuple -/
def seqD : D → Option (List D)
  | .list ds => some ds
  | .tuple ds => some ds
  | _ => none
theorem rp_seq {v : V} {d : D} {ds : List D} (E : ER K F G H σ ρ) (h : RP K G v d) (e : seqD d = some ds) : ∃ a vs, v = .ref a ∧ (SqL K H a vs ∨ SqT K H a vs) ∧ RPs K G vs ds := by
  cases d with
  | list xs =>
    cases e
    obtain ⟨a, vs, rfl, ga, ra⟩ := dp_lst h
    exact ⟨a, vs, rfl, .inl (SqL.of (E.exG _ _ ga)), ra⟩
  | tuple xs =>
    cases e
    obtain ⟨a, vs, rfl, ga, ra⟩ := dp_tup h
    exact ⟨a, vs, rfl, .inr (same_t E.exG ga), ra⟩
  | none => cases e
  | bool _ => cases e
  | int _ => cases e
  | str _ => cases e
  | dict _ => cases e
/-! len -/
def rLenS (K : PySem.W.Frag) : List V → Hp → VK → Prop := fun xs H Q => ∃ p ys, xs = [.ref p] ∧ (SqL K H p ys ∨ SqT K H p ys) ∧ Q (.int ys.length) H
def fLen : List D → Option S
  | [d] => (seqD d).map fun ds => .val (.int ds.length)
  | _ => none
theorem c_len (hK : X.K = K := by rfl) : BCa K X (.builtin "len") (rLenS K) fLen := by
  subst hK
  refine ⟨call_len_seq, fun F G H σ ρ vs ds s E hv hf Q q => ?_⟩
  unfold fLen at hf
  split at hf
  · rename_i d
    obtain ⟨v, rfl, r⟩ := rps1 hv
    cases h : seqD d with
    | none => rw [h] at hf; cases hf
    | some xs =>
      rw [h] at hf
      cases hf
      obtain ⟨a, ws, rfl, hs, ra⟩ := rp_seq E r h
      exact ⟨a, ws, rfl, hs, q _ G H (Ext.refl F G) E (by rw [dps_len ra]; exact .int _)⟩
  · cases hf
/-- len(name), the name's list staying its own -/
def rdLenV (i : Nat) : RE := fun ρ => (seqAt ρ i).map fun ds => (.val (.int ds.length), ρ)
theorem ek_lenV (i : Nat) : EK K F (tCB (rLenS K) (tCons (tVar i) tNil)) (rdLenV i) := by
  intro G H σ ρ ρ' s E ht Q q
  unfold rdLenV at ht
  cases h : seqAt ρ i with
  | none => rw [h] at ht; cases ht
  | some ds =>
    rw [h] at ht
    cases ht
    obtain ⟨a, vs, qa, hs, ra⟩ := E.seq h
    exact ⟨_, qa, a, vs, rfl, hs, q _ G H (Ext.refl F G) E (by rw [dps_len ra]; exact .int _)⟩
theorem d_lenV (i : Nat) {x : Str} {px : Pos} (hm : X.mg ("len" : Str) = none) (hK : X.K = K := by rfl) (hN : X.N[i]? = some x := by rfl) (hv : Vis X.env.scope x := by first | exact Or.inl rfl | exact Or.inr (Or.inl rfl) | exact Or.inr (Or.inr rfl))
    (hg : Gl X ("len" : Str) := by rfl) (hd : (x == ("__debug__" : Str)) = false := by decide) (hcd : (x == ("__classdict__" : Str)) = false := by decide) (hst : starEach [.Name x px] X.env = (false, eval (.Name x px) X.env) :: starEach [] X.env := by rfl)
    (hpl : (backTo pos (starEach [] X.env)).any (·.1) = false := by rfl) :
    DE K X (.Call (.Name "len" p) [.Name x px] [] pos) (tCB (rLenS K) (tCons (tVar i) tNil)) (rdLenV i) := by
  subst hK
  exact ⟨pe_callB call_len_seq hg hm PySem.boot_len (pa_cons (pe_var hN hv hd hcd) pa_nil hst) (by decide) (by decide) hst hpl, fun F => ek_lenV i⟩
/-! int, tuple, list -/
def fInt : List D → Option S
  | [.int i] => some (.val (.int i))
  | [.bool b] => some (.val (.int (if b then 1 else 0)))
  | _ => none
theorem c_int : BCa K X (.type "int") (fun xs H Q => (∃ i, xs = [.int i] ∧ Q (.int i) H) ∨ ∃ k, xs = [.bl k] ∧ Q (.int (if k then 1 else 0)) H) fInt := by
  refine ⟨call_int1, fun F G H σ ρ vs ds s E hv hf Q q => ?_⟩
  unfold fInt at hf
  split at hf
  · obtain ⟨v, rfl, r⟩ := rps1 hv
    cases hf
    exact .inl ⟨_, by rw [dp_int r], q _ G H (Ext.refl F G) E (.int _)⟩
  · obtain ⟨v, rfl, r⟩ := rps1 hv
    cases hf
    exact .inr ⟨_, by rw [dp_bl r], q _ G H (Ext.refl F G) E (.int _)⟩
  · cases hf
def fTuple : List D → Option S
  | [.list ds] => some (.val (.tuple ds))
  | [.tuple ds] => some (.val (.tuple ds))
  | _ => none
theorem c_tuple (hK : X.K = K := by rfl) : BCa K X (.type "tuple") (fun xs H Q => ∃ p ys, xs = [.ref p] ∧ ((SqL K H p ys ∧ ∀ l, H l = none → Q (.ref l) (upd H l (.tup ys))) ∨ (SqT K H p ys ∧ Q (.ref p) H))) fTuple := by
  subst hK
  refine ⟨call_tuple_of, fun F G H σ ρ vs ds s E hv hf Q q => ?_⟩
  unfold fTuple at hf
  split at hf
  · obtain ⟨v, rfl, r⟩ := rps1 hv
    cases hf
    obtain ⟨a, ws, rfl, ga, ra⟩ := dp_lst r
    refine ⟨a, ws, rfl, .inl ⟨SqL.of (E.exG _ _ ga), fun l hl => ?_⟩⟩
    obtain ⟨x2, E2, r2⟩ := E.newTup hl ra
    exact q _ _ _ x2 E2 r2
  · obtain ⟨v, rfl, r⟩ := rps1 hv
    cases hf
    have r' := r
    obtain ⟨a, ws, rfl, ga, ra⟩ := dp_tup r
    exact ⟨a, ws, rfl, .inr ⟨same_t E.exG ga, q _ G H (Ext.refl F G) E r'⟩⟩
  · cases hf
def fList : List D → Option S
  | [d] => (seqD d).map fun ds => .own ds
  | _ => none
theorem c_list (hK : X.K = K := by rfl) : BCa K X (.type "list") (fun xs H Q => ∃ p ys, xs = [.ref p] ∧ (SqL K H p ys ∨ SqT K H p ys) ∧ ∀ l, H l = none → Q (.ref l) (upd H l (.lst ys))) fList := by
  subst hK
  refine ⟨call_list_of, fun F G H σ ρ vs ds s E hv hf Q q => ?_⟩
  unfold fList at hf
  split at hf
  · rename_i d
    obtain ⟨v, rfl, r⟩ := rps1 hv
    cases h : seqD d with
    | none => rw [h] at hf; cases hf
    | some xs =>
      rw [h] at hf
      cases hf
      obtain ⟨a, ws, rfl, hs, ra⟩ := rp_seq E r h
      refine ⟨a, ws, rfl, hs, fun l hl => ?_⟩
      obtain ⟨E2, r2⟩ := E.newLst hl ra
      exact q _ G _ (Ext.refl F G) E2 r2
  · cases hf
/-! sums, the greatest, the least, all, any -/
def intsOf : List D → Option (List Int)
  | [] => some []
  | .int i :: r => (intsOf r).map (i :: ·)
  | _ => none
theorem intsOf_map : ∀ {ds : List D} {ns : List Int}, intsOf ds = some ns → ds = ns.map PyData.int
  | [], ns, h => by cases h; rfl
  | d :: r, ns, h => by
    cases d with
    | int i =>
      unfold intsOf at h
      cases h2 : intsOf r with
      | none => rw [h2] at h; cases h
      | some ms =>
        rw [h2] at h
        cases h
        rw [intsOf_map h2]
        rfl
    | none => cases h
    | bool _ => cases h
    | str _ => cases h
    | list _ => cases h
    | tuple _ => cases h
    | dict _ => cases h
theorem intsOf_ints : ∀ (ns : List Int), intsOf (ns.map PyData.int) = some ns
  | [] => rfl
  | n :: ns => by
    show (intsOf (ns.map PyData.int)).map (n :: ·) = _
    rw [intsOf_ints ns]
    rfl
def blsOf : List D → Option (List Bool)
  | [] => some []
  | .bool i :: r => (blsOf r).map (i :: ·)
  | _ => none
theorem blsOf_map : ∀ {ds : List D} {ns : List Bool}, blsOf ds = some ns → ds = ns.map PyData.bool
  | [], ns, h => by cases h; rfl
  | d :: r, ns, h => by
    cases d with
    | bool i =>
      unfold blsOf at h
      cases h2 : blsOf r with
      | none => rw [h2] at h; cases h
      | some ms =>
        rw [h2] at h
        cases h
        rw [blsOf_map h2]
        rfl
    | none => cases h
    | int _ => cases h
    | str _ => cases h
    | list _ => cases h
    | tuple _ => cases h
    | dict _ => cases h
theorem blsOf_bls : ∀ (ns : List Bool), blsOf (ns.map PyData.bool) = some ns
  | [] => rfl
  | n :: ns => by
    show (blsOf (ns.map PyData.bool)).map (n :: ·) = _
    rw [blsOf_bls ns]
    rfl
def fInts (g : List Int → Option D) : List D → Option S
  | [.list ds] => (intsOf ds).bind fun ns => (g ns).map .val
  | _ => none
theorem fInts_some {g : List Int → Option D} {vs : List V} {ds : List D} {s : S} (E : ER K F G H σ ρ) (hv : RPs K G vs ds) (hf : fInts g ds = some s) : ∃ (a : Addr) (ns : List Int) (d : D), vs = [V.ref a] ∧ SqL K H a (ns.map V.int) ∧ g ns = some d ∧ s = .val d := by
  unfold fInts at hf
  split at hf
  · rename_i xs
    obtain ⟨v, rfl, r⟩ := rps1 hv
    obtain ⟨a, ws, rfl, ga, ra⟩ := dp_lst r
    cases h : intsOf xs with
    | none => rw [h] at hf; cases hf
    | some ns =>
      rw [h] at hf
      simp only [Option.bind_some] at hf
      rw [intsOf_map h] at ra
      rw [dps_ints ra] at ga
      cases h2 : g ns with
      | none => rw [h2] at hf; cases hf
      | some d =>
        rw [h2] at hf
        cases hf
        exact ⟨a, ns, d, rfl, SqL.of (E.exG _ _ ga), h2, rfl⟩
  · cases hf
theorem c_sum (hc : X.calm = true := by rfl) (hK : X.K = K := by rfl) : BCa K X (.builtin "sum") (rSum K) (fInts fun ns => some (.int ns.sum)) := by
  subst hK
  refine ⟨cr_sum hc, fun F G H σ ρ vs ds s E hv hf Q q => ?_⟩
  obtain ⟨a, ns, d, rfl, hs, hg, rfl⟩ := fInts_some E hv hf
  cases hg
  exact ⟨a, ns, rfl, hs, q _ G H (Ext.refl F G) E (.int _)⟩
def maxI : List Int → Option D
  | [] => none
  | n :: ns => some (.int (ns.foldl max n))
def minI : List Int → Option D
  | [] => none
  | n :: ns => some (.int (ns.foldl min n))
theorem foldl_max_eq : ∀ (ns : List Int) (n m : Int), m ∈ n :: ns → (∀ y, y ∈ n :: ns → y ≤ m) → ns.foldl max n = m
  | [], n, m, h, _ => by simp at h; exact h.symm
  | a :: ns, n, m, h, hl => by
    show ns.foldl max (max n a) = m
    have h1 := hl n (by simp)
    have h2 := hl a (by simp)
    refine foldl_max_eq ns (max n a) m ?_ fun y hy => ?_
    · simp only [List.mem_cons] at h ⊢
      rcases h with h | h | h
      · left; omega
      · left; omega
      · right; exact h
    · simp only [List.mem_cons] at hy
      rcases hy with h | h
      · omega
      · exact hl y (by simp [h])
theorem foldl_min_eq : ∀ (ns : List Int) (n m : Int), m ∈ n :: ns → (∀ y, y ∈ n :: ns → m ≤ y) → ns.foldl min n = m
  | [], n, m, h, _ => by simp at h; exact h.symm
  | a :: ns, n, m, h, hl => by
    show ns.foldl min (min n a) = m
    have h1 := hl n (by simp)
    have h2 := hl a (by simp)
    refine foldl_min_eq ns (min n a) m ?_ fun y hy => ?_
    · simp only [List.mem_cons] at h ⊢
      rcases h with h | h | h
      · left; omega
      · left; omega
      · right; exact h
    · simp only [List.mem_cons] at hy
      rcases hy with h | h
      · omega
      · exact hl y (by simp [h])
theorem c_max (hc : X.calm = true := by rfl) (hK : X.K = K := by rfl) : BCa K X (.builtin "max") (rMax K) (fInts maxI) := by
  subst hK
  refine ⟨cr_max hc, fun F G H σ ρ vs ds s E hv hf Q q => ?_⟩
  obtain ⟨a, ns, d, rfl, hs, hg, rfl⟩ := fInts_some E hv hf
  cases ns with
  | nil => cases hg
  | cons n ns =>
    cases hg
    refine ⟨a, n :: ns, rfl, hs, by simp, fun m h1 h2 => ?_⟩
    rw [foldl_max_eq ns n m h1 h2] at q
    exact q _ G H (Ext.refl F G) E (.int _)
theorem c_min (hc : X.calm = true := by rfl) (hK : X.K = K := by rfl) : BCa K X (.builtin "min") (rMin K) (fInts minI) := by
  subst hK
  refine ⟨cr_min hc, fun F G H σ ρ vs ds s E hv hf Q q => ?_⟩
  obtain ⟨a, ns, d, rfl, hs, hg, rfl⟩ := fInts_some E hv hf
  cases ns with
  | nil => cases hg
  | cons n ns =>
    cases hg
    refine ⟨a, n :: ns, rfl, hs, by simp, fun m h1 h2 => ?_⟩
    rw [foldl_min_eq ns n m h1 h2] at q
    exact q _ G H (Ext.refl F G) E (.int _)
def f2 (g : Int → Int → Int) : List D → Option S
  | [.int i, .int j] => some (.val (.int (g i j)))
  | _ => none
theorem c_max2 (hc : X.calm = true := by rfl) : BCa K X (.builtin "max") (fun xs H Q => ∃ i j, xs = [.int i, .int j] ∧ Q (.int (if j > i then j else i)) H) (f2 fun i j => if j > i then j else i) := by
  refine ⟨call_max2 hc, fun F G H σ ρ vs ds s E hv hf Q q => ?_⟩
  unfold f2 at hf
  split at hf
  · obtain ⟨v, w, rfl, r1, r2⟩ := rps2 hv
    cases hf
    exact ⟨_, _, by rw [dp_int r1, dp_int r2], q _ G H (Ext.refl F G) E (.int _)⟩
  · cases hf
theorem c_min2 (hc : X.calm = true := by rfl) : BCa K X (.builtin "min") (fun xs H Q => ∃ i j, xs = [.int i, .int j] ∧ Q (.int (if j < i then j else i)) H) (f2 fun i j => if j < i then j else i) := by
  refine ⟨call_min2 hc, fun F G H σ ρ vs ds s E hv hf Q q => ?_⟩
  unfold f2 at hf
  split at hf
  · obtain ⟨v, w, rfl, r1, r2⟩ := rps2 hv
    cases hf
    exact ⟨_, _, by rw [dp_int r1, dp_int r2], q _ G H (Ext.refl F G) E (.int _)⟩
  · cases hf
def fBls (g : List Bool → Bool) : List D → Option S
  | [.list ds] => (blsOf ds).map fun ns => .val (.bool (g ns))
  | _ => none
theorem fBls_some {g : List Bool → Bool} {vs : List V} {ds : List D} {s : S} (E : ER K F G H σ ρ) (hv : RPs K G vs ds) (hf : fBls g ds = some s) : ∃ (a : Addr) (ns : List Bool), vs = [V.ref a] ∧ SqL K H a (ns.map V.bl) ∧ s = .val (.bool (g ns)) := by
  unfold fBls at hf
  split at hf
  · rename_i xs
    obtain ⟨v, rfl, r⟩ := rps1 hv
    obtain ⟨a, ws, rfl, ga, ra⟩ := dp_lst r
    cases h : blsOf xs with
    | none => rw [h] at hf; cases hf
    | some ns =>
      rw [h] at hf
      cases hf
      rw [blsOf_map h] at ra
      rw [dps_bls ra] at ga
      exact ⟨a, ns, rfl, SqL.of (E.exG _ _ ga), rfl⟩
  · cases hf
theorem c_all (hc : X.calm = true := by rfl) (hK : X.K = K := by rfl) : BCa K X (.builtin "all") (rAll K) (fBls fun bs => bs.all id) := by
  subst hK
  refine ⟨cr_all hc, fun F G H σ ρ vs ds s E hv hf Q q => ?_⟩
  obtain ⟨a, ns, rfl, hs, rfl⟩ := fBls_some E hv hf
  exact ⟨a, ns, rfl, hs, q _ G H (Ext.refl F G) E (.bl _)⟩
theorem c_any (hc : X.calm = true := by rfl) (hK : X.K = K := by rfl) : BCa K X (.builtin "any") (rAny K) (fBls fun bs => bs.any id) := by
  subst hK
  refine ⟨cr_any hc, fun F G H σ ρ vs ds s E hv hf Q q => ?_⟩
  obtain ⟨a, ns, rfl, hs, rfl⟩ := fBls_some E hv hf
  exact ⟨a, ns, rfl, hs, q _ G H (Ext.refl F G) E (.bl _)⟩
/-! sorted, of ints in a list or a tuple -/
def rSortedT (K : PySem.W.Frag) : List V → Hp → VK → Prop := fun vs H Q => ∃ (a : Addr) (ns : List Int), vs = [V.ref a] ∧ SqT K H a (ns.map V.int) ∧
  ∀ (ns' : List Int) (p : Addr), ns'.Perm ns → ns'.Pairwise (· ≤ ·) → H p = none → Q (.ref p) (upd H p (.lst (ns'.map V.int)))
def ins (i : Int) : List Int → List Int
  | [] => [i]
  | j :: r => if i ≤ j then i :: j :: r else j :: ins i r
def srt : List Int → List Int
  | [] => []
  | i :: r => ins i (srt r)
theorem ins_perm (i : Int) : ∀ l : List Int, (ins i l).Perm (i :: l)
  | [] => List.Perm.refl _
  | j :: r => by
    unfold ins
    split
    · exact List.Perm.refl _
    · exact ((ins_perm i r).cons j).trans (List.Perm.swap i j r)
theorem srt_perm : ∀ l : List Int, (srt l).Perm l
  | [] => List.Perm.refl _
  | i :: r => (ins_perm i (srt r)).trans ((srt_perm r).cons i)
theorem ins_pw (i : Int) : ∀ l : List Int, l.Pairwise (· ≤ ·) → (ins i l).Pairwise (· ≤ ·)
  | [], _ => by simp [ins]
  | j :: r, h => by
    have h' := List.pairwise_cons.mp h
    unfold ins
    split
    · rename_i hij
      refine List.pairwise_cons.mpr ⟨fun y hy => ?_, h⟩
      rcases List.mem_cons.mp hy with e | hy
      · rw [e]; exact hij
      · exact Int.le_trans hij (h'.1 y hy)
    · rename_i hij
      refine List.pairwise_cons.mpr ⟨fun y hy => ?_, ins_pw i r h'.2⟩
      have hy := (ins_perm i r).mem_iff.mp hy
      rcases List.mem_cons.mp hy with e | hy
      · rw [e]; omega
      · exact h'.1 y hy
theorem srt_pw : ∀ l : List Int, (srt l).Pairwise (· ≤ ·)
  | [] => List.Pairwise.nil
  | i :: r => ins_pw i _ (srt_pw r)
theorem pw_perm_eq : ∀ {l m : List Int}, l.Perm m → l.Pairwise (· ≤ ·) → m.Pairwise (· ≤ ·) → l = m := by
  intro l m h hl hm
  exact h.eq_of_pairwise (fun a b _ _ h1 h2 => by omega) hl hm
def fSorted : List D → Option S
  | [d] => (seqD d).bind fun ds => (intsOf ds).map fun ns => .own ((srt ns).map PyData.int)
  | _ => none
theorem c_sortedL (hK : X.K = K := by rfl) : BCa K X (.builtin "sorted") (rSortedI K) (fun ds => match ds with | [.list xs] => fSorted [.list xs] | _ => none) := by
  subst hK
  refine ⟨cr_sortedI, fun F G H σ ρ vs ds s E hv hf Q q => ?_⟩
  split at hf
  · rename_i xs
    obtain ⟨v, rfl, r⟩ := rps1 hv
    obtain ⟨a, ws, rfl, ga, ra⟩ := dp_lst r
    have hf : ((intsOf xs).map fun ns => S.own ((srt ns).map PyData.int)) = some s := hf
    cases h : intsOf xs with
    | none => rw [h] at hf; cases hf
    | some ns =>
      rw [h] at hf
      cases hf
      rw [intsOf_map h] at ra
      rw [dps_ints ra] at ga
      refine ⟨a, ns, rfl, SqL.of (E.exG _ _ ga), fun ns' p h1 h2 hp => ?_⟩
      have e : ns' = srt ns := pw_perm_eq (h1.trans (srt_perm ns).symm) h2 (srt_pw ns)
      subst e
      obtain ⟨E2, r2⟩ := E.newLst hp (ints_dps (srt ns))
      exact q _ G _ (Ext.refl F G) E2 r2
  · cases hf
end
end DL

set_option Elab.async false
set_option linter.all false
set_option maxRecDepth 100000
set_option maxHeartbeats 4000000
/-! sorted of a tuple: as SortShell's collect_list and SortOrd's sorted_ord, the source being a tuple -/
namespace DLT
open PySem PySem.Spec PyProof.Rows SrtO
section
variable {prog : Program} {w : World} {A : Around} {E : Value → Shared → Prop} {s : Shared}
theorem collect_tup {l : Addr} {vs : List Value} {Q : List Value → Shared → Prop} (hl : IsTup s.heap l vs.toArray)
    (h : Q vs { s with heap := (s.heap.push (seqObj "list" #[] 0)).update s.heap.objs.size (Obj.mapSeq (· ++ vs.toArray)) }) (hsz : vs.length ≤ sizeLine := by size_fits) :
    wpAny (model prog w) A (collect (.ref l)) Q E s := by
  obtain ⟨o, ho, hc, n, hd⟩ := id hl
  unfold collect
  refine wpAny_bind (wpAny_runValue (codeAny_builtin entry_proto_collect' ?_))
  show wpAny _ _ (do again (.builtin "list.__iadd__" ⟨[← newList [], .ref l], []⟩)) _ _ s
  refine wpAny_bind (wpAny_newList (wpAny_pure ⟨Code.quiet_builtin _ (by decide +kernel), codeAny_builtin entry_list_iadd' ?_⟩))
  show wpAny _ _ (Builtin.List.listExtendWith (.ref s.heap.objs.size) (.ref l) (.ref s.heap.objs.size)) _ _ { s with heap := s.heap.push (seqObj "list" #[] 0) }
  unfold Builtin.List.listExtendWith
  have ho' : (s.heap.push (seqObj "list" #[] 0)).get? l = some o := Heap.get?_push_of_some _ ho
  refine wpAny_bind (wpAny_typeOf (T := "tuple") ⟨o, ho', hc⟩ ?_)
  have ht : (Value.type "tuple" == Value.type "tuple") = true := by rfl
  rw [if_pos (by rw [ht]; simp)]
  refine wpAny_bind (listItems_at ho' hd ?_)
  refine wpAny_bind (listItems_at (xs := #[]) (n := 0) (Heap.get?_push_size _ rfl) rfl ?_)
  rw [if_neg (by simp)]
  refine wpAny_bind (listUpdate_at (xs := #[]) (n := 0) (Heap.get?_push_size _ rfl) rfl ?_ (Nat.zero_le _) (by show (#[] ++ vs.toArray).size ≤ sizeLine + 1; simp only [Array.size_append, List.size_toArray, List.length_nil]; omega))
  refine wpAny_pure ?_
  show wpAny (model prog w) A (do
      let o ← load s.heap.objs.size
      match o.data with
      | .seq xs _ => pure xs.toList
      | _ => unsupported "internal:collect") Q E { s with heap := (s.heap.push (seqObj "list" #[] 0)).update s.heap.objs.size (Obj.mapSeq (· ++ vs.toArray)) }
  refine wpAny_bind (wpAny_load (get?_update_seq (Heap.get?_push_size _ rfl) _) ?_)
  show wpAny _ _ (pure ((#[] : Array Value) ++ vs.toArray).toList) Q E _
  rw [show ((#[] : Array Value) ++ vs.toArray).toList = vs by simp]
  exact wpAny_pure h
theorem sorted_tup {l : Addr} {vs : List Value} {ltv : Value → Value → Bool} {Q : Value → Shared → Prop} (O : Swo ltv) (hl : IsTup s.heap l vs.toArray) (hz : vs.length ≤ sizeLine)
    (hS : 2 ≤ vs.length → ∀ (h₁ : Heap) (a : Addr), h₁.get? a = some (seqObj "list" vs.toArray 0) → (∀ b o, s.heap.get? b = some o → b ≠ a ∧ h₁.get? b = some o) → SortableO prog w A.in1.in1 { s with heap := h₁ } a vs ltv)
    (h : ∀ out : List Value, Srtd ltv out → Stb ltv out vs → Q (.ref (s.heap.objs.size + 1)) { s with heap := sortedAll s.heap vs out.toArray }) :
    wpAny (model prog w) A (call (.builtin "sorted") [.ref l]) Q E s := by
  refine Calls.call_function_entry kind_sorted plain_sorted entry_sorted (args_sorted1 _) ?_
  unfold Builtin.«sorted»
  refine wpAny_bind (m := checkCount "sorted" 1 1 _) (wpAny_pure ?_)
  refine wpAny_bind (collect_tup hl ?_ hz)
  refine wpAny_bind (wpAny_newList ?_ hz)
  have hsz : ((s.heap.push (seqObj "list" #[] 0)).update s.heap.objs.size (Obj.mapSeq (· ++ vs.toArray))).objs.size = s.heap.objs.size + 1 := by
    rw [Heap.size_update, size_push']
  have hoL : (((s.heap.push (seqObj "list" #[] 0)).update s.heap.objs.size (Obj.mapSeq (· ++ vs.toArray))).push (seqObj "list" vs.toArray 0)).get? (s.heap.objs.size + 1) = some (seqObj "list" vs.toArray 0) := by
    rw [← hsz]; exact Heap.get?_push_size _ rfl
  have keep : ∀ b o, s.heap.get? b = some o → b ≠ s.heap.objs.size + 1 ∧ (((s.heap.push (seqObj "list" #[] 0)).update s.heap.objs.size (Obj.mapSeq (· ++ vs.toArray))).push (seqObj "list" vs.toArray 0)).get? b = some o := fun b o q => by
    have hlt : b < s.heap.objs.size := Heap.lt_size q
    refine ⟨Nat.ne_of_lt (Nat.lt_succ_of_lt hlt), Heap.get?_push_of_some _ ?_⟩
    rw [Heap.get?_update_ne _ _ _ _ (Nat.ne_of_lt hlt)]
    exact Heap.get?_push_of_some _ q
  show wpAny _ _ _ _ _ { s with heap := ((s.heap.push (seqObj "list" #[] 0)).update s.heap.objs.size (Obj.mapSeq (· ++ vs.toArray))).push (seqObj "list" vs.toArray 0) }
  rw [hsz]
  refine wpAny_bind (wpAny_holding (wpAny_call_entry slot_list_sort ⟨_, hoL, rfl⟩ entry_list_sort (list_sort_ord O hoL hz (fun h2 => hS h2 _ _ hoL keep) fun out hs hb => ⟨_, rfl, ?_⟩) (args_list_sort _)))
  exact wpAny_pure ⟨_, rfl, h out hs hb⟩
end
end DLT
namespace DL
open PySem L2
section
variable {K : PySem.W.Frag} {X : Cx} {F : Fr} {G H : Hp} {σ : L2.St} {ρ ρ' : En} {s : S} {te : TE} {t : RE} {e a b c : Expr} {es : List Expr} {ta tb tc : TE} {rA rB rC : RE} {pos p : Pos} {tas : TA} {rAs : RA}
theorem cr_sortedT : CallR X (.builtin "sorted") (rSortedT X.K) := by
  intro pins s σ H vs us Q I r h
  obtain ⟨a, ns, rfl, hs, q⟩ := h
  obtain ⟨its, rv, hl, hz⟩ := I.tuple hs
  rw [Vals.ref1 r]
  have hi := rv.ints
  refine DLT.sorted_tup SrtO.swo_int hl (by rw [← rv.length]; exact hz) (fun h2 h₁ a' _ _ => SrtO.ints_sortable hi h2) fun out h1 h2 => ?_
  obtain ⟨k1, k2, k3⟩ := SrtO.ints_out hi h1 h2
  obtain ⟨ep, he'⟩ := PyProof.Rows.sortedAll_at s.heap its out.toArray
  have hlen : ((out.map SrtO.iv).map V.int).length ≤ sizeLine := by
    rw [List.length_map, k2.length_eq]
    rw [List.length_map] at hz
    exact hz
  exact ⟨.ref _, upd H (s.heap.objs.size + 1) (.lst ((out.map SrtO.iv).map V.int)), I.laid (t' := s.toks) (fun _ _ => PyProof.Rows.sortedAll_old) (Nat.le_succ _) ⟨hlen, out, ep, vals_of_ints k1, he'⟩, rfl, q _ _ k2 k3 (I.hok.fresh (Nat.le_succ _))⟩
theorem c_sorted (hK : X.K = K := by rfl) : BCa K X (.builtin "sorted") (fun vs H Q => rSortedI K vs H Q ∨ rSortedT K vs H Q) fSorted := by
  subst hK
  refine ⟨cr_sortedI.or cr_sortedT, fun F G H σ ρ vs ds s E hv hf Q q => ?_⟩
  unfold fSorted at hf
  split at hf
  · rename_i d
    obtain ⟨v, rfl, r⟩ := rps1 hv
    cases h : seqD d with
    | none => rw [h] at hf; cases hf
    | some xs =>
      rw [h] at hf
      simp only [Option.bind_some] at hf
      cases h2 : intsOf xs with
      | none => rw [h2] at hf; cases hf
      | some ns =>
        rw [h2] at hf
        cases hf
        obtain ⟨a, ws, rfl, hs, ra⟩ := rp_seq E r h
        rw [intsOf_map h2] at ra
        rw [dps_ints ra] at hs
        rcases hs with hs | hs
        · refine .inl ⟨a, ns, rfl, hs, fun ns' p h1 h2 hp => ?_⟩
          have e : ns' = srt ns := pw_perm_eq (h1.trans (srt_perm ns).symm) h2 (srt_pw ns)
          subst e
          obtain ⟨E2, r2⟩ := E.newLst hp (ints_dps (srt ns))
          exact q _ G _ (Ext.refl F G) E2 r2
        · refine .inr ⟨a, ns, rfl, hs, fun ns' p h1 h2 hp => ?_⟩
          have e : ns' = srt ns := pw_perm_eq (h1.trans (srt_perm ns).symm) h2 (srt_pw ns)
          subst e
          obtain ⟨E2, r2⟩ := E.newLst hp (ints_dps (srt ns))
          exact q _ G _ (Ext.refl F G) E2 r2
  · cases hf

/-! isinstance(e, T) -/
def tyName : D → String
  | .none => "NoneType"
  | .bool _ => "bool"
  | .int _ => "int"
  | .str _ => "str"
  | .list _ => "list"
  | .tuple _ => "tuple"
  | .dict _ => "dict"
theorem rp_ty {v : V} {d : D} (E : ER K F G H σ ρ) (h : RP K G v d) : TyX K H v (.type (tyName d)) := by
  cases d with
  | none => cases h; exact .base .non
  | bool b => cases h; exact .base (.bl b)
  | int i => cases h; exact .base (.int i)
  | str x => cases h; exact .base (.str x)
  | list ds =>
    obtain ⟨a, vs, rfl, ga, ra⟩ := dp_lst h
    exact .base (.lst (E.exG _ _ ga))
  | tuple ds =>
    obtain ⟨a, vs, rfl, ga, ra⟩ := dp_tup h
    rcases same_t E.exG ga with (hh | ⟨o, hh⟩) | ⟨o, its, n, hk, hc, _⟩
    · exact .base (.tup hh)
    · exact .fTuple hh
    · exact .kTuple hk hc
  | dict _ => cases h
def rdIsi (T : String) (g : D → Bool) (t : RE) : RE := fun ρ => (t ρ).map fun p => (.val (.bool (g p.1.d)), p.2)
theorem ek_isi {T : String} {g : D → Bool} (hg : ∀ d, (∀ kvs, d ≠ .dict kvs) → kitB (tyName d) T = some (g d)) (ha : EK K F ta rA) : EK K F (tCB (rIsi K) (tCons ta (tCons (tC (.ty T)) tNil))) (rdIsi T g rA) := by
  intro G H σ ρ ρ' s E ht Q q
  unfold rdIsi at ht
  obtain ⟨s1, h1, rfl⟩ := rmap_some (g := fun s1 : S => S.val (.bool (g s1.d))) ht
  refine ha.fz E h1 fun x G1 H1 x1 E1 p1 => ?_
  refine ⟨x, .ty T, .type (tyName s1.d), .type T, g s1.d, rfl, .ty T, rp_ty E1 p1, kit_ty (hg _ fun kvs e => by rw [e] at p1; cases p1), q _ G1 H1 x1 E1 (.bl _)⟩
def isBool : D → Bool
  | .bool _ => true
  | _ => false
def isInt : D → Bool
  | .bool _ => true
  | .int _ => true
  | _ => false
def isStr : D → Bool
  | .str _ => true
  | _ => false
def isTuple : D → Bool
  | .tuple _ => true
  | _ => false
theorem kB (d : D) (h : ∀ kvs, d ≠ .dict kvs) : kitB (tyName d) "bool" = some (isBool d) := by
  cases d with
  | dict kvs => exact absurd rfl (h kvs)
  | none => show kitB "NoneType" "bool" = some false; decide +kernel
  | bool _ => show kitB "bool" "bool" = some true; decide +kernel
  | int _ => show kitB "int" "bool" = some false; decide +kernel
  | str _ => show kitB "str" "bool" = some false; decide +kernel
  | list _ => show kitB "list" "bool" = some false; decide +kernel
  | tuple _ => show kitB "tuple" "bool" = some false; decide +kernel
theorem kI (d : D) (h : ∀ kvs, d ≠ .dict kvs) : kitB (tyName d) "int" = some (isInt d) := by
  cases d with
  | dict kvs => exact absurd rfl (h kvs)
  | none => show kitB "NoneType" "int" = some false; decide +kernel
  | bool _ => show kitB "bool" "int" = some true; decide +kernel
  | int _ => show kitB "int" "int" = some true; decide +kernel
  | str _ => show kitB "str" "int" = some false; decide +kernel
  | list _ => show kitB "list" "int" = some false; decide +kernel
  | tuple _ => show kitB "tuple" "int" = some false; decide +kernel
theorem kS (d : D) (h : ∀ kvs, d ≠ .dict kvs) : kitB (tyName d) "str" = some (isStr d) := by
  cases d with
  | dict kvs => exact absurd rfl (h kvs)
  | none => show kitB "NoneType" "str" = some false; decide +kernel
  | bool _ => show kitB "bool" "str" = some false; decide +kernel
  | int _ => show kitB "int" "str" = some false; decide +kernel
  | str _ => show kitB "str" "str" = some true; decide +kernel
  | list _ => show kitB "list" "str" = some false; decide +kernel
  | tuple _ => show kitB "tuple" "str" = some false; decide +kernel
theorem kT (d : D) (h : ∀ kvs, d ≠ .dict kvs) : kitB (tyName d) "tuple" = some (isTuple d) := by
  cases d with
  | dict kvs => exact absurd rfl (h kvs)
  | none => show kitB "NoneType" "tuple" = some false; decide +kernel
  | bool _ => show kitB "bool" "tuple" = some false; decide +kernel
  | int _ => show kitB "int" "tuple" = some false; decide +kernel
  | str _ => show kitB "str" "tuple" = some false; decide +kernel
  | list _ => show kitB "list" "tuple" = some false; decide +kernel
  | tuple _ => show kitB "tuple" "tuple" = some true; decide +kernel
theorem d_isi {x : Str} {T : String} {g : D → Bool} {px : Pos} (hg : ∀ d, (∀ kvs, d ≠ .dict kvs) → kitB (tyName d) T = some (g d)) (hm : X.mg ("isinstance" : Str) = none) (hmT : X.mg x = none) (hvT : bootBuiltins x = some (.type T)) (ha : DE K X a ta rA) (hK : X.K = K := by rfl)
    (hgi : Gl X ("isinstance" : Str) := by rfl) (hgx : Gl X x := by rfl) (hn : x ≠ "__name__" := by decide) (hdb : (x == ("__debug__" : Str)) = false := by decide)
    (hs1 : starEach [a, .Name x px] X.env = (false, eval a X.env) :: starEach [.Name x px] X.env := by rfl) (hs2 : starEach [.Name x px] X.env = (false, eval (.Name x px) X.env) :: starEach [] X.env := by rfl)
    (hpl : (backTo pos (starEach [.Name x px] X.env)).any (·.1) = false := by rfl) :
    DE K X (.Call (.Name "isinstance" p) [a, .Name x px] [] pos) (tCB (rIsi K) (tCons ta (tCons (tC (.ty T)) tNil))) (rdIsi T g rA) := by
  subst hK
  exact ⟨pe_callB call_isi hgi hm (by decide +kernel) (pa_cons ha.pe (pa_cons (pe_bltn hgx hmT hvT rfl hn hdb) pa_nil hs2) hs1) (by decide) (by decide) hs1 hpl, fun F => ek_isi hg (ha.ek F)⟩

/-! ### what a name's own list does -/
/-- an own or borrowed list changed, with what comes of it -/
def muAt (ρ : En) (i : Nat) : Option (List D) := match ρ[i]? with
  | some (some (.own ds)) => some ds
  | some (some (.bor ds)) => some ds
  | _ => none
def muSet (ρ : En) (i : Nat) (ds : List D) : En := match ρ[i]? with
  | some (some (.own _)) => ρ.set i (some (.own ds))
  | some (some (.bor _)) => ρ.set i (some (.bor ds))
  | _ => ρ
theorem ER.mu (E : ER K F G H σ ρ) {i : Nat} {ds : List D} (h : muAt ρ i = some ds) : ∃ a vs, σ[i]? = some (some (.ref a)) ∧ H a = some (.lst vs) ∧ RPs K G vs ds ∧ G a = none := by
  unfold muAt at h
  split at h
  · rename_i xs e
    cases h
    obtain ⟨v, q, a, vs, rfl, w, g, hh, k⟩ := E.slot i _ e
    exact ⟨a, vs, q, hh, k, g⟩
  · rename_i xs e
    cases h
    obtain ⟨v, q, vs, rfl, w, g, hh, k⟩ := E.slot i _ e
    exact ⟨_, vs, q, hh, k, g⟩
  · cases h
theorem ER.muSet (E : ER K F G H σ ρ) {i : Nat} {ds ds' : List D} {a : Addr} {vs' : List V} (h : muAt ρ i = some ds) (q : σ[i]? = some (some (.ref a))) (k : RPs K G vs' ds') : ER K F G (upd H a (.lst vs')) σ (muSet ρ i ds') := by
  unfold muAt at h
  unfold DL.muSet
  split at h
  · rename_i xs e
    exact E.mutate e rfl q k
  · rename_i xs e
    exact E.mutate e rfl q k
  · cases h
/-- x.append(e) -/
def rdApp (i : Nat) (t : RE) : RE := fun ρ => (muAt ρ i).bind fun _ => (t ρ).bind fun p => (muAt p.2 i).bind fun ds => if ds.length < sizeLine then some (.val .none, muSet p.2 i (ds ++ [p.1.d])) else none
theorem ek_app (i : Nat) (ha : EK K F ta rA) : EK K F (tBM K "list" rAppend (tVar i) (tCons ta tNil)) (rdApp i rA) := by
  intro G H σ ρ ρ' s E ht Q q
  unfold rdApp at ht
  cases h0 : muAt ρ i with
  | none => rw [h0] at ht; cases ht
  | some ds0 =>
    rw [h0] at ht
    simp only [Option.bind_some] at ht
    cases h1 : rA ρ with
    | none => rw [h1] at ht; cases ht
    | some p =>
      rw [h1] at ht
      simp only [Option.bind_some] at ht
      cases h2 : muAt p.2 i with
      | none => rw [h2] at ht; cases ht
      | some ds =>
        rw [h2] at ht
        simp only [Option.bind_some] at ht
        split at ht
        · rename_i hz
          cases ht
          obtain ⟨a, vs0, qa, ha0, _, _⟩ := E.mu h0
          refine ⟨_, qa, .inl ⟨rfl, _, SqL.of ha0⟩, ha.fz E (ρ' := p.2) (s := p.1) h1 fun x G1 H1 e1 E1 p1 => ?_⟩
          obtain ⟨a', vs, qa', ha1, ra, _⟩ := E1.mu h2
          rw [qa] at qa'
          cases qa'
          exact ⟨a, vs, x, rfl, rfl, ha1, by rw [dps_len ra]; exact hz, q _ G1 _ e1 (E1.muSet h2 qa (dps_app ra (dps_one p1))) .non⟩
        · cases ht
theorem d_app (i : Nat) {x : Str} {px : Pos} {apos : Pos} (ha : DE K X a ta rA) (hK : X.K = K := by rfl) (hN : X.N[i]? = some x := by rfl) (hv : Vis X.env.scope x := by first | exact Or.inl rfl | exact Or.inr (Or.inl rfl) | exact Or.inr (Or.inr rfl))
    (hd : (x == ("__debug__" : Str)) = false := by decide) (hcd : (x == ("__classdict__" : Str)) = false := by decide)
    (hbase : attributeBase (.Name x px) ("append" : Str) X.env (eval (.Name x px) X.env) = eval (.Name x px) X.env := by rfl)
    (hfew : ((backTo pos (starEach [a] X.env)).all (fun x => !x.1) && (backToKw pos (keywordEach [] X.env)).all (fun x => x.1.isSome)
      && decide ([a].length + ([] : List Keyword).length + (if ([] : List Keyword).isEmpty then 0 else 1) < 30)) = true := by rfl)
    (hline : (apos.endLine == pos.line) = true := by rfl) (hs : starEach [a] X.env = (false, eval a X.env) :: starEach [] X.env := by rfl) (hplain : (backTo pos (starEach [] X.env)).any (·.1) = false := by rfl) :
    DE K X (.Call (.Attribute (.Name x px) "append" apos) [a] [] pos) (tBM K "list" rAppend (tVar i) (tCons ta tNil)) (rdApp i rA) := by
  subst hK
  exact ⟨pe_bm PySem.F.plainAttrs_list PySem.F.slot_list_append PySem.F.type_list_append mt_append (pe_var hN hv hd hcd) (pa_cons ha.pe pa_nil hs) hbase hfew hline hs hplain, fun F => ek_app i (ha.ek F)⟩
/-- x.pop() -/
def rdPop (i : Nat) : RE := fun ρ => (muAt ρ i).bind fun ds => (ds.getLast?).map fun d => (.val d, muSet ρ i ds.dropLast)
theorem ek_pop (i : Nat) : EK K F (tBM0 K "list" rPop (tVar i)) (rdPop i) := by
  intro G H σ ρ ρ' s E ht Q q
  unfold rdPop at ht
  cases h0 : muAt ρ i with
  | none => rw [h0] at ht; cases ht
  | some ds =>
    rw [h0] at ht
    simp only [Option.bind_some] at ht
    cases h1 : ds.getLast? with
    | none => rw [h1] at ht; cases ht
    | some d =>
      rw [h1] at ht
      cases ht
      obtain ⟨a, vs, qa, ha, ra, _⟩ := E.mu h0
      rw [List.getLast?_eq_getElem?] at h1
      obtain ⟨v, hv, rv⟩ := dps_get ra h1
      exact ⟨_, qa, .inl ⟨rfl, _, SqL.of ha⟩, a, vs, v, rfl, rfl, ha, by rw [dps_len ra]; exact hv, q _ G _ (Ext.refl F G) (E.muSet h0 qa (dps_dropLast ra)) rv⟩
theorem d_pop (i : Nat) {x : Str} {px : Pos} {apos : Pos} (hK : X.K = K := by rfl) (hN : X.N[i]? = some x := by rfl) (hv : Vis X.env.scope x := by first | exact Or.inl rfl | exact Or.inr (Or.inl rfl) | exact Or.inr (Or.inr rfl))
    (hd : (x == ("__debug__" : Str)) = false := by decide) (hcd : (x == ("__classdict__" : Str)) = false := by decide)
    (hbase : attributeBase (.Name x px) ("pop" : Str) X.env (eval (.Name x px) X.env) = eval (.Name x px) X.env := by rfl) (hline : (apos.endLine == pos.line) = true := by rfl) :
    DE K X (.Call (.Attribute (.Name x px) "pop" apos) [] [] pos) (tBM0 K "list" rPop (tVar i)) (rdPop i) := by
  subst hK
  exact ⟨pe_bm0 PySem.F.plainAttrs_list PySem.F.slot_list_pop PySem.F.type_list_pop mt_pop (pe_var hN hv hd hcd) hbase hline, fun F => ek_pop i⟩
/-- x.reverse() -/
def rdRev (i : Nat) : RE := fun ρ => (muAt ρ i).map fun ds => (.val .none, muSet ρ i ds.reverse)
theorem ek_rev (i : Nat) : EK K F (tBM0 K "list" rReverse (tVar i)) (rdRev i) := by
  intro G H σ ρ ρ' s E ht Q q
  unfold rdRev at ht
  cases h0 : muAt ρ i with
  | none => rw [h0] at ht; cases ht
  | some ds =>
    rw [h0] at ht
    cases ht
    obtain ⟨a, vs, qa, ha, ra, _⟩ := E.mu h0
    exact ⟨_, qa, .inl ⟨rfl, _, SqL.of ha⟩, a, vs, rfl, rfl, ha, q _ G _ (Ext.refl F G) (E.muSet h0 qa (dps_rev ra)) .non⟩
theorem d_rev (i : Nat) {x : Str} {px : Pos} {apos : Pos} (hK : X.K = K := by rfl) (hN : X.N[i]? = some x := by rfl) (hv : Vis X.env.scope x := by first | exact Or.inl rfl | exact Or.inr (Or.inl rfl) | exact Or.inr (Or.inr rfl))
    (hd : (x == ("__debug__" : Str)) = false := by decide) (hcd : (x == ("__classdict__" : Str)) = false := by decide)
    (hbase : attributeBase (.Name x px) ("reverse" : Str) X.env (eval (.Name x px) X.env) = eval (.Name x px) X.env := by rfl) (hline : (apos.endLine == pos.line) = true := by rfl) :
    DE K X (.Call (.Attribute (.Name x px) "reverse" apos) [] [] pos) (tBM0 K "list" rReverse (tVar i)) (rdRev i) := by
  subst hK
  exact ⟨pe_bm0 PySem.F.plainAttrs_list PySem.F.slot_list_reverse PySem.F.type_list_reverse mt_reverse (pe_var hN hv hd hcd) hbase hline, fun F => ek_rev i⟩
/-- e in name, e not in name: the name's list staying its own -/
def rdInV (neg : Bool) (ta : RE) (i : Nat) : RE := fun ρ => (ta ρ).bind fun p => (seqAt p.2 i).bind fun ds => if SeqAt.shaped p.1.d = true ∧ SeqAt.shaped (.list ds) = true then some (.val (.bool (neg ^^ inD p.1.d ds)), p.2) else none
theorem rps_dp_lst {a : Addr} {vs : List V} {ds : List D} (E : ER K F G H σ ρ) (h : SqL K H a vs ∨ SqT K H a vs) (r : RPs K G vs ds) : Dp K H (.ref a) (.list ds) ∨ Dp K H (.ref a) (.tuple ds) := by
  have r' := rps_dp _ _ (dps_mono E.exG _ _ r)
  rcases h with h | h
  · exact .inl (.lst h r')
  · exact .inr (.tup h r')
theorem ek_inV {neg : Bool} (i : Nat) (ha : EK K F ta rA) : EK K F (tOp (rInA K neg) ta (tVar i)) (rdInV neg rA i) := by
  intro G H σ ρ ρ' s E ht Q q
  unfold rdInV at ht
  cases h1 : rA ρ with
  | none => rw [h1] at ht; cases ht
  | some p =>
    rw [h1] at ht
    simp only [Option.bind_some] at ht
    cases h2 : seqAt p.2 i with
    | none => rw [h2] at ht; cases ht
    | some ds =>
      rw [h2] at ht
      simp only [Option.bind_some] at ht
      split at ht
      · rename_i hz
        cases ht
        refine ha.fz E (ρ' := p.2) (s := p.1) h1 fun x G1 H1 e1 E1 p1 => ?_
        obtain ⟨a, vs, qa, hs, ra⟩ := E1.seq h2
        exact ⟨_, qa, _, ds, rp_dp _ _ (dp_mono E1.exG _ _ p1), rps_dp_lst E1 hs ra, hz.1, hz.2, q _ G1 H1 e1 E1 (.bl _)⟩
      · cases ht
theorem d_inV (i : Nat) {x : Str} {px : Pos} (hu : X.A.units + 65 < cLine) (ha : DE K X a ta rA) (hK : X.K = K := by rfl) (hN : X.N[i]? = some x := by rfl) (hv : Vis X.env.scope x := by first | exact Or.inl rfl | exact Or.inr (Or.inl rfl) | exact Or.inr (Or.inr rfl))
    (hd : (x == ("__debug__" : Str)) = false := by decide) (hcd : (x == ("__classdict__" : Str)) = false := by decide) (hm : behindInMarks .In (.Name x px) = false := by rfl) :
    DE K X (.Compare a [.In] [.Name x px] pos) (tOp (rInA K false) ta (tVar i)) (rdInV false rA i) := by
  subst hK
  exact ⟨pe_cmpR (op_inA hu) ha.pe (pe_var hN hv hd hcd) hm, fun F => ek_inV i (ha.ek F)⟩
theorem d_niV (i : Nat) {x : Str} {px : Pos} (hu : X.A.units + 65 < cLine) (ha : DE K X a ta rA) (hK : X.K = K := by rfl) (hN : X.N[i]? = some x := by rfl) (hv : Vis X.env.scope x := by first | exact Or.inl rfl | exact Or.inr (Or.inl rfl) | exact Or.inr (Or.inr rfl))
    (hd : (x == ("__debug__" : Str)) = false := by decide) (hcd : (x == ("__classdict__" : Str)) = false := by decide) (hm : behindInMarks .NotIn (.Name x px) = false := by rfl) :
    DE K X (.Compare a [.NotIn] [.Name x px] pos) (tOp (rInA K true) ta (tVar i)) (rdInV true rA i) := by
  subst hK
  exact ⟨pe_cmpR (op_notInA hu) ha.pe (pe_var hN hv hd hcd) hm, fun F => ek_inV i (ha.ek F)⟩
theorem d_tinV (i : Nat) {x : Str} {px : Pos} (hu : X.A.units + 65 < cLine) (ha : DE K X a ta rA) (hK : X.K = K := by rfl) (hN : X.N[i]? = some x := by rfl) (hv : Vis X.env.scope x := by first | exact Or.inl rfl | exact Or.inr (Or.inl rfl) | exact Or.inr (Or.inr rfl))
    (hd : (x == ("__debug__" : Str)) = false := by decide) (hcd : (x == ("__classdict__" : Str)) = false := by decide) (hm : behindInMarks .In (.Name x px) = false := by rfl) :
    DT K X (.Compare a [.In] [.Name x px] pos) (tTest (tOp (rInA K false) ta (tVar i))) (rdTst (rdInV false rA i)) := by
  subst hK
  exact ⟨pt_cmpR (op_inA hu) ha.pe (pe_var hN hv hd hcd) hm, fun F => tk_tst (ek_inV i (ha.ek F))⟩
theorem d_tniV (i : Nat) {x : Str} {px : Pos} (hu : X.A.units + 65 < cLine) (ha : DE K X a ta rA) (hK : X.K = K := by rfl) (hN : X.N[i]? = some x := by rfl) (hv : Vis X.env.scope x := by first | exact Or.inl rfl | exact Or.inr (Or.inl rfl) | exact Or.inr (Or.inr rfl))
    (hd : (x == ("__debug__" : Str)) = false := by decide) (hcd : (x == ("__classdict__" : Str)) = false := by decide) (hm : behindInMarks .NotIn (.Name x px) = false := by rfl) :
    DT K X (.Compare a [.NotIn] [.Name x px] pos) (tTest (tOp (rInA K true) ta (tVar i))) (rdTst (rdInV true rA i)) := by
  subst hK
  exact ⟨pt_cmpR (op_notInA hu) ha.pe (pe_var hN hv hd hcd) hm, fun F => tk_tst (ek_inV i (ha.ek F))⟩
end
end DL

set_option Elab.async false
set_option linter.all false
set_option maxRecDepth 100000
set_option maxHeartbeats 4000000
namespace DL
open PySem L2
/-! ### statements -/
inductive Out where
  | nx (ρ : En) | rt (s : S) (ρ : En) | bk (ρ : En) | ct (ρ : En)
abbrev RS := En → Option Out
def EndsOk (K : PySem.W.Frag) (F : Fr) (G : Hp) (D : Ends) : Out → Prop
  | .nx ρ => ∀ G' H' σ', Ext F G G' → ER K F G' H' σ' ρ → D.nx σ' H'
  | .bk ρ => ∀ G' H' σ', Ext F G G' → ER K F G' H' σ' ρ → D.bk σ' H'
  | .ct ρ => ∀ G' H' σ', Ext F G G' → ER K F G' H' σ' ρ → D.ct σ' H'
  | .rt s ρ => ∀ v G' H' σ', Ext F G G' → ER K F G' H' σ' ρ → RR K F G' H' σ' ρ v s → D.rt v H'
def SK (K : PySem.W.Frag) (F : Fr) (ts : TS) (t : RS) : Prop :=
  ∀ (G H : Hp) (σ : L2.St) (ρ : En) (o : Out) (D : Ends), ER K F G H σ ρ → t ρ = some o → EndsOk K F G D o → ts D σ H
structure DS (K : PySem.W.Frag) (X : Cx) (st : Stmt) (ts : TS) (t : RS) : Prop where
  ps : PS X st ts
  sk : ∀ F, SK K F ts t
structure DSs (K : PySem.W.Frag) (X : Cx) (st : List Stmt) (ts : TS) (t : RS) : Prop where
  ps : PSs X st ts
  sk : ∀ F, SK K F ts t
theorem EndsOk.mono {K : PySem.W.Frag} {F : Fr} {G G1 : Hp} {D : Ends} (x : Ext F G G1) : ∀ {o : Out}, EndsOk K F G D o → EndsOk K F G1 D o
  | .nx ρ, h => fun G' H' σ' x' E => h G' H' σ' (x.trans x') E
  | .bk ρ, h => fun G' H' σ' x' E => h G' H' σ' (x.trans x') E
  | .ct ρ, h => fun G' H' σ' x' E => h G' H' σ' (x.trans x') E
  | .rt s ρ, h => fun v G' H' σ' x' E r => h v G' H' σ' (x.trans x') E r
section
variable {K : PySem.W.Frag} {X : Cx} {F : Fr} {G H : Hp} {σ : L2.St} {ρ ρ' : En} {s : S} {te : TE} {t : RE} {e a b c : Expr} {es : List Expr} {ta tb tc : TE} {rA rB rC : RE} {pos p : Pos} {tas : TA} {rAs : RA}
  {st : Stmt} {rest sa sb : List Stmt} {ts us : TS} {r1 r2 : RS} {tt : TT} {u : RT}
def rsNil : RS := fun ρ => some (.nx ρ)
def rsSeq (t u : RS) : RS := fun ρ => (t ρ).bind fun o => match o with
  | .nx ρ1 => u ρ1
  | o => some o
theorem sk_nil : SK K F tNext rsNil := by
  intro G H σ ρ o D E ht q
  cases ht
  exact q G H σ (Ext.refl F G) E
theorem sk_seq (h1 : SK K F ts r1) (h2 : SK K F us r2) : SK K F (tSeq ts us) (rsSeq r1 r2) := by
  intro G H σ ρ o D E ht q
  unfold rsSeq at ht
  cases e : r1 ρ with
  | none => rw [e] at ht; cases ht
  | some o1 =>
    rw [e] at ht
    simp only [Option.bind_some] at ht
    refine h1 G H σ ρ o1 _ E e ?_
    cases o1 with
    | nx ρ1 => exact fun G' H' σ' x E' => h2 G' H' σ' ρ1 o D E' ht (q.mono x)
    | bk ρ1 => cases ht; exact q
    | ct ρ1 => cases ht; exact q
    | rt s ρ1 => cases ht; exact q
theorem ds_nil : DSs K X [] tNext rsNil := ⟨pss_nil, fun F => sk_nil⟩
theorem ds_cons (h1 : DS K X st ts r1) (h2 : DSs K X rest us r2) : DSs K X (st :: rest) (tSeq ts us) (rsSeq r1 r2) := ⟨pss_cons h1.ps h2.ps, fun F => sk_seq (h1.sk F) (h2.sk F)⟩
theorem ds_one (h1 : DS K X st ts r1) : DSs K X [st] ts r1 := ⟨pss_one h1.ps, h1.sk⟩
/-! slots forgotten behind a statement -/
def killE : List Nat → En → En
  | [], ρ => ρ
  | i :: r, ρ => killE r (ρ.set i none)
theorem ER.kills : ∀ (ks : List Nat) {ρ : En}, ER K F G H σ ρ → ER K F G H σ (killE ks ρ)
  | [], _, E => E
  | i :: r, _, E => ER.kills r (E.kill i)
def rsKill (ks : List Nat) (t : RS) : RS := fun ρ => (t ρ).map fun o => match o with
  | .nx ρ1 => .nx (killE ks ρ1)
  | o => o
theorem sk_kill (ks : List Nat) (h : SK K F ts r1) : SK K F ts (rsKill ks r1) := by
  intro G H σ ρ o D E ht q
  unfold rsKill at ht
  cases e : r1 ρ with
  | none => rw [e] at ht; cases ht
  | some o1 =>
    rw [e] at ht
    simp only [Option.map_some, Option.some.injEq] at ht
    refine h G H σ ρ o1 D E e ?_
    cases o1 with
    | nx ρ1 => subst ht; exact fun G' H' σ' x E' => q G' H' σ' x (ER.kills ks E')
    | bk ρ1 => subst ht; exact q
    | ct ρ1 => subst ht; exact q
    | rt s ρ1 => subst ht; exact q
theorem d_kill (ks : List Nat) (h : DS K X st ts r1) : DS K X st ts (rsKill ks r1) := ⟨h.ps, fun F => sk_kill ks (h.sk F)⟩
/-! return, expression, pass, break, continue, if -/
def rsRet (t : RE) : RS := fun ρ => (t ρ).map fun p => .rt p.1 p.2
theorem sk_ret (h : EK K F te t) : SK K F (tRet te) (rsRet t) := by
  intro G H σ ρ o D E ht q
  unfold rsRet at ht
  cases e : t ρ with
  | none => rw [e] at ht; cases ht
  | some p =>
    rw [e] at ht
    cases ht
    exact h G H σ ρ p.2 p.1 E e _ fun v G' H' x E' r => q v G' H' σ x E' r
theorem d_ret (h : DE K X e te t) : DS K X (.Return (some e) pos) (tRet te) (rsRet t) := ⟨ps_ret h.pe, fun F => sk_ret (h.ek F)⟩
def rsRetN : RS := fun ρ => some (.rt (.val .none) ρ)
theorem d_retN : DS K X (.Return none pos) tRetN rsRetN := ⟨ps_retN, fun F G H σ ρ o D E ht q => by
  cases ht
  exact q .non G H σ (Ext.refl F G) E .non⟩
def rsExpr (t : RE) : RS := fun ρ => (t ρ).map fun p => .nx p.2
theorem sk_expr (h : EK K F te t) : SK K F (tDrop te) (rsExpr t) := by
  intro G H σ ρ o D E ht q
  unfold rsExpr at ht
  cases e : t ρ with
  | none => rw [e] at ht; cases ht
  | some p =>
    rw [e] at ht
    cases ht
    exact h G H σ ρ p.2 p.1 E e _ fun v G' H' x E' r => q G' H' σ x E'
theorem d_expr (h : DE K X e te t) (hs : swapsWith e none pos.line X.env = pure false := by rfl) : DS K X (.Expr e pos) (tDrop te) (rsExpr t) := ⟨ps_expr h.pe hs, fun F => sk_expr (h.ek F)⟩
def rsPass : RS := fun ρ => some (.nx ρ)
theorem d_pass : DS K X (.Pass pos) tNext rsPass := ⟨ps_pass, fun F => sk_nil⟩
def rsBreak : RS := fun ρ => some (.bk ρ)
theorem d_break : DS K X (.Break pos) tBreak rsBreak := ⟨ps_break, fun F G H σ ρ o D E ht q => by
  cases ht
  exact q G H σ (Ext.refl F G) E⟩
def rsCont : RS := fun ρ => some (.ct ρ)
theorem d_cont : DS K X (.Continue pos) tCont rsCont := ⟨ps_continue, fun F G H σ ρ o D E ht q => by
  cases ht
  exact q G H σ (Ext.refl F G) E⟩
def rsIf (c : RT) (t u : RS) : RS := fun ρ => (c ρ).bind fun p => if p.1 = true then t p.2 else u p.2
theorem sk_if (hc : TK K F tt u) (h1 : SK K F ts r1) (h2 : SK K F us r2) : SK K F (tIfS tt ts us) (rsIf u r1 r2) := by
  intro G H σ ρ o D E ht q
  unfold rsIf at ht
  cases e : u ρ with
  | none => rw [e] at ht; cases ht
  | some p =>
    rw [e] at ht
    obtain ⟨c, ρ1⟩ := p
    simp only [Option.bind_some] at ht
    refine hc G H σ ρ ρ1 c E e _ fun G1 H1 x1 E1 => ?_
    cases c with
    | true =>
      rw [if_pos rfl] at ht ⊢
      exact h1 G1 H1 σ ρ1 o D E1 ht (q.mono x1)
    | false =>
      rw [if_neg Bool.false_ne_true] at ht ⊢
      exact h2 G1 H1 σ ρ1 o D E1 ht (q.mono x1)
theorem d_ifS (hc : DT K X c tt u) (h1 : DSs K X sa ts r1) (h2 : DSs K X sb us r2) : DS K X (.If c sa sb pos) (tIfS tt ts us) (rsIf u r1 r2) := ⟨ps_if hc.pt h1.ps h2.ps, fun F => sk_if (hc.tk F) (h1.sk F) (h2.sk F)⟩
/-- a name's own list, given away whole -/
def rdMv (i : Nat) : RE := fun ρ => match ρ[i]? with
  | some (some (.val d)) => some (.val d, ρ)
  | some (some (.own ds)) => some (.own ds, ρ.set i none)
  | _ => none
theorem ek_mv (i : Nat) : EK K F (tVar i) (rdMv i) := by
  intro G H σ ρ ρ' s E ht Q q
  unfold rdMv at ht
  split at ht
  · rename_i d e
    cases ht
    obtain ⟨v, q1, r⟩ := E.slot i _ e
    exact ⟨v, q1, q v G H (Ext.refl F G) E r⟩
  · rename_i ds e
    cases ht
    obtain ⟨v, q1, a, vs, rfl, w, g, h, k⟩ := E.slot i _ e
    refine ⟨_, q1, q _ G H (Ext.refl F G) (E.kill i) ⟨a, vs, rfl, w, g, h, k, fun j t ej m q' => ?_⟩⟩
    have hi : i < ρ.length := (List.getElem?_eq_some_iff.mp e).1
    by_cases hj : j = i
    · subst hj
      rw [List.getElem?_set_self hi] at ej; cases ej
    · rw [List.getElem?_set_ne (Ne.symm hj)] at ej
      exact E.sep j i t _ a hj ej e m rfl q' q1
  · cases ht
theorem d_mv (i : Nat) {x : Str} (hN : X.N[i]? = some x := by rfl) (hv : Vis X.env.scope x := by first | exact Or.inl rfl | exact Or.inr (Or.inl rfl) | exact Or.inr (Or.inr rfl)) (hd : (x == ("__debug__" : Str)) = false := by decide)
    (hcd : (x == ("__classdict__" : Str)) = false := by decide) : DE K X (.Name x pos) (tVar i) (rdMv i) := ⟨pe_var hN hv hd hcd, fun F => ek_mv i⟩
/-! assignments -/
def rsSet (i : Nat) (t : RE) : RS := fun ρ => (t ρ).map fun p => .nx (p.2.set i (some p.1))
theorem sk_set (i : Nat) (h : EK K F te t) : SK K F (tAsg te (gName i)) (rsSet i t) := by
  intro G H σ ρ o D E ht q
  unfold rsSet at ht
  cases e : t ρ with
  | none => rw [e] at ht; cases ht
  | some p =>
    rw [e] at ht
    cases ht
    exact h G H σ ρ p.2 p.1 E e _ fun v G' H' x E' r => q G' H' _ x (E'.setRes i r)
theorem d_set (i : Nat) {x : Str} {pos' : Pos} (h : DE K X e te t) (hN : X.N.Nodup) (hi : X.N[i]? = some x := by rfl) (hx : Loc X.env.scope x := by first | exact Or.inl rfl | exact Or.inr rfl) (hs : swapsWith e (some (.Name x pos')) pos.line X.env = pure false := by rfl)
    (hf : X.fn x = true ∨ X.env.scope.names.lookup x = some .local := by first | exact .inl rfl | exact .inr rfl) : DS K X (.Assign [.Name x pos'] e pos) (tAsg te (gName i)) (rsSet i t) := ⟨ps_set hN hi hx h.pe hs hf, fun F => sk_set i (h.ek F)⟩
/-! targets -/
abbrev RG := D → En → Option En
def GK (K : PySem.W.Frag) (F : Fr) (g : TG) (t : RG) (is : List Nat) : Prop :=
  ∀ (G H : Hp) (σ : L2.St) (ρ ρ' : En) (v : V) (d : D), ER K F G H σ ρ → RP K G v d → t d ρ = some ρ' →
    ∀ Q : L2.St → Hp → Prop, (∀ G' H' σ', Ext F G G' → ER K F G' H' σ' ρ' → (∀ vs, (∀ i ∈ is, i ∈ vs) → wipe σ' vs = wipe σ vs) → Q σ' H') → g v σ H Q
def GsK (K : PySem.W.Frag) (F : Fr) (g : TGs) (t : List D → En → Option En) (is : List Nat) : Prop :=
  ∀ (G H : Hp) (σ : L2.St) (ρ ρ' : En) (vs : List V) (ds : List D), ER K F G H σ ρ → RPs K G vs ds → t ds ρ = some ρ' →
    ∀ Q : L2.St → Hp → Prop, (∀ G' H' σ', Ext F G G' → ER K F G' H' σ' ρ' → (∀ vs, (∀ i ∈ is, i ∈ vs) → wipe σ' vs = wipe σ vs) → Q σ' H') → g vs σ H Q
structure DG (K : PySem.W.Frag) (X : Cx) (tg : Expr) (g : TG) (t : RG) (is : List Nat) : Prop where
  pg : PG X tg g
  gk : ∀ F, GK K F g t is
structure DGs (K : PySem.W.Frag) (X : Cx) (tgs : List Expr) (g : TGs) (t : List D → En → Option En) (is : List Nat) : Prop where
  pg : PGs X tgs g
  gk : ∀ F, GsK K F g t is
theorem set_comm' {α : Type} (l : List α) (i j : Nat) (x : α) : ((l.set i x).set j x) = ((l.set j x).set i x) := by
  by_cases h : i = j
  · subst h; rfl
  · exact List.set_comm x x h
theorem wipe_at : ∀ (vs : List Nat) (σ : L2.St) (i : Nat) (o : Option V), (wipe (σ.set i o) vs).set i none = (wipe σ vs).set i none
  | [], σ, i, o => by
    show (σ.set i o).set i none = σ.set i none
    rw [List.set_set]
  | j :: vs, σ, i, o => by
    show ((wipe (σ.set i o) vs).set j none).set i none = ((wipe σ vs).set j none).set i none
    rw [set_comm', wipe_at vs σ i o, set_comm']
theorem wipe_set : ∀ (vs : List Nat) (σ : L2.St) (i : Nat) (o : Option V), i ∈ vs → wipe (σ.set i o) vs = wipe σ vs
  | j :: vs, σ, i, o, h => by
    show (wipe (σ.set i o) vs).set j none = (wipe σ vs).set j none
    by_cases e : i = j
    · subst e
      exact wipe_at vs σ i o
    · rcases List.mem_cons.mp h with h | h
      · exact absurd h e
      · rw [wipe_set vs σ i o h]
def rgName (i : Nat) : RG := fun d ρ => some (ρ.set i (some (.val d)))
theorem gk_name (i : Nat) : GK K F (gName i) (rgName i) [i] := by
  intro G H σ ρ ρ' v d E r ht Q q
  cases ht
  exact q G H _ (Ext.refl F G) (E.setVal i r) fun vs hv => wipe_set vs σ i _ (hv i (by simp))
theorem dg_name (i : Nat) {x : Str} (hN : X.N.Nodup) (hi : X.N[i]? = some x := by rfl) (hx : Loc X.env.scope x := by first | exact Or.inl rfl | exact Or.inr rfl)
    (hf : X.fn x = true ∨ X.env.scope.names.lookup x = some .local := by first | exact .inl rfl | exact .inr rfl) : DG K X (.Name x pos) (gName i) (rgName i) [i] := ⟨pg_name hN hi hx hf, fun F => gk_name i⟩
def rgNil : List D → En → Option En := fun ds ρ => match ds with
  | [] => some ρ
  | _ => none
def rgCons (t : RG) (u : List D → En → Option En) : List D → En → Option En := fun ds ρ => match ds with
  | d :: r => (t d ρ).bind fun ρ1 => u r ρ1
  | [] => none
theorem dgs_nil : DGs K X [] gNil rgNil [] := ⟨pgs_nil, fun F G H σ ρ ρ' vs ds E r ht Q q => by
  cases ds with
  | nil =>
    cases ht
    cases r
    exact ⟨rfl, q G H σ (Ext.refl F G) E fun _ _ => rfl⟩
  | cons _ _ => cases ht⟩
theorem dgs_cons {tg : Expr} {tgs : List Expr} {g : TG} {gs : TGs} {t : RG} {u : List D → En → Option En} {is js : List Nat} (h1 : DG K X tg g t is) (h2 : DGs K X tgs gs u js)
    (hs : (assignEach (tg :: tgs) X.env).map (·.2) = assign tg X.env :: (assignEach tgs X.env).map (·.2) := by rfl) : DGs K X (tg :: tgs) (gCons g gs) (rgCons t u) (is ++ js) :=
  ⟨pgs_cons h1.pg h2.pg hs, fun F G H σ ρ ρ' vs ds E r ht Q q => by
    cases ds with
    | nil => cases ht
    | cons d ds =>
      have ht : ((t d ρ).bind fun ρ1 => u ds ρ1) = some ρ' := ht
      cases e : t d ρ with
      | none => rw [e] at ht; cases ht
      | some ρ1 =>
        rw [e] at ht
        simp only [Option.bind_some] at ht
        cases r with
        | cons k1 k2 =>
          refine ⟨_, _, rfl, h1.gk F G H σ ρ ρ1 _ d E k1 e _ fun G1 H1 σ1 x1 E1 w1 => ?_⟩
          refine h2.gk F G1 H1 σ1 ρ1 ρ' _ ds E1 (dps_mono x1.ex _ _ k2) ht Q fun G2 H2 σ2 x2 E2 w2 => ?_
          exact q G2 H2 σ2 (x1.trans x2) E2 fun vs hv => (w2 vs fun i hi => hv i (List.mem_append_right _ hi)).trans (w1 vs fun i hi => hv i (List.mem_append_left _ hi))⟩
def rgTup (n : Nat) (t : List D → En → Option En) : RG := fun d ρ => match d with
  | .tuple ds => if ds.length = n then t ds ρ else none
  | _ => none
theorem dg_tup {tgs : List Expr} {gs : TGs} {u : List D → En → Option En} {js : List Nat} {k : Nat} {n : Nat} (h : DGs K X tgs gs u js) (hc : X.calm = true := by rfl) (hK : X.K = K := by rfl)
    (hn : (assignEach tgs X.env).length = n := by rfl) (hst : (assignEach tgs X.env).findIdx? (·.1) = none := by rfl) : DG K X (.Tuple tgs k pos) (gTup K n gs) (rgTup n u) js := by
  subst hK
  refine ⟨pg_tup hc h.pg hn hst, fun F G H σ ρ ρ' v d E r ht Q q => ?_⟩
  cases d with
  | tuple ds =>
    have ht : (if ds.length = n then u ds ρ else none) = some ρ' := ht
    split at ht
    · rename_i hl
      obtain ⟨a, vs, rfl, ga, ra⟩ := dp_tup r
      exact ⟨a, vs, rfl, same_t E.exG ga, by rw [dps_len ra]; exact hl, h.gk F G H σ ρ ρ' vs ds E ra ht Q q⟩
    · cases ht
  | none => cases ht
  | bool _ => cases ht
  | int _ => cases ht
  | str _ => cases ht
  | list _ => cases ht
  | dict _ => cases ht
/-- a, b = e -/
def rsAsg (t : RE) (g : RG) : RS := fun ρ => (t ρ).bind fun p => (g p.1.d p.2).map .nx
theorem sk_asg {g : TG} {r : RG} {is : List Nat} (h : EK K F te t) (hg : GK K F g r is) : SK K F (tAsg te g) (rsAsg t r) := by
  intro G H σ ρ o D E ht q
  unfold rsAsg at ht
  cases e : t ρ with
  | none => rw [e] at ht; cases ht
  | some p =>
    rw [e] at ht
    simp only [Option.bind_some] at ht
    cases e2 : r p.1.d p.2 with
    | none => rw [e2] at ht; cases ht
    | some ρ1 =>
      rw [e2] at ht
      cases ht
      refine h.fz E (ρ' := p.2) (s := p.1) e fun v G1 H1 x1 E1 p1 => hg G1 H1 σ p.2 ρ1 v _ E1 p1 e2 _ fun G2 H2 σ2 x2 E2 _ => ?_
      exact q G2 H2 σ2 (x1.trans x2) E2
theorem d_asg {tg : Expr} {g : TG} {r : RG} {is : List Nat} (h : DE K X e te t) (hg : DG K X tg g r is) (hs : swapsWithSole [tg] e pos.line X.env = pure false := by rfl) (hw : swappedStores [tg] e X.env = pure none := by rfl)
    (h1 : (assignEach [tg] X.env).map (·.2) = [assign tg X.env] := by rfl) : DS K X (.Assign [tg] e pos) (tAsg te g) (rsAsg t r) := ⟨ps_asg h.pe hg.pg hs hw h1, fun F => sk_asg (h.ek F) (hg.gk F)⟩
/-- a, b = x, y -/
def rsPar (i j : Nat) (t : RA) : RS := fun ρ => (t ρ).bind fun p => match p.1 with
  | [d, d'] => some (.nx ((p.2.set i (some (.val d))).set j (some (.val d'))))
  | _ => none
theorem sk_par {i j : Nat} (h : AK K F tas rAs) : SK K F (tPar i j tas) (rsPar i j rAs) := by
  intro G H σ ρ o D E ht q
  unfold rsPar at ht
  cases e : rAs ρ with
  | none => rw [e] at ht; cases ht
  | some p =>
    rw [e] at ht
    simp only [Option.bind_some] at ht
    split at ht
    · rename_i d d' ed
      cases ht
      refine h G H σ ρ p.2 p.1 E e _ fun vs G1 H1 x1 E1 p1 => ?_
      rw [ed] at p1
      obtain ⟨v, w, rfl, k1, k2⟩ := rps2 p1
      exact ⟨v, w, rfl, q G1 H1 _ x1 ((E1.setVal i k1).setVal j k2)⟩
    · cases ht
theorem d_par (i j : Nat) {x y : Str} {px py pt : Pos} {kt k2 pt2} (ha : DA K X [a, b] tas rAs) (hN : X.N.Nodup) (hw : swappedStores [.Tuple [.Name x px, .Name y py] kt pt] (.Tuple [a, b] k2 pt2) X.env = pure (some [x, y]))
    (hi : X.N[i]? = some x := by rfl) (hj : X.N[j]? = some y := by rfl) (hij : i ≠ j := by decide) (hx : X.env.scope.names.lookup x = some .local := by rfl) (hy : X.env.scope.names.lookup y = some .local := by rfl) (hc : X.calm = true := by rfl)
    (hs : swapsWithSole [.Tuple [.Name x px, .Name y py] kt pt] (.Tuple [a, b] k2 pt2) pos.line X.env = pure false := by rfl) :
    DS K X (.Assign [.Tuple [.Name x px, .Name y py] kt pt] (.Tuple [a, b] k2 pt2) pos) (tPar i j tas) (rsPar i j rAs) :=
  ⟨ps_par hc hN hi hj hij hx hy ha.pa hw hs, fun F => sk_par (ha.ak F)⟩
/-- x[k] = e, x a name's own list -/
def rsSub (i : Nat) (tk : RE) (t : RE) : RS := fun ρ => (t ρ).bind fun p => (muAt p.2 i).bind fun _ => (tk p.2).bind fun q => (muAt q.2 i).bind fun ds => match q.1.d with
  | .int k => (ixN ds.length k).map fun j => .nx (muSet q.2 i (ds.set j p.1.d))
  | _ => none
theorem sk_sub (i : Nat) (hk : EK K F tb rB) (h : EK K F te t) : SK K F (tAsg te (gSub (tVar i) tb rSetL)) (rsSub i rB t) := by
  intro G H σ ρ o D E ht q
  unfold rsSub at ht
  cases e : t ρ with
  | none => rw [e] at ht; cases ht
  | some p =>
    rw [e] at ht
    simp only [Option.bind_some] at ht
    cases e0 : muAt p.2 i with
    | none => rw [e0] at ht; cases ht
    | some ds0 =>
      rw [e0] at ht
      simp only [Option.bind_some] at ht
      cases e1 : rB p.2 with
      | none => rw [e1] at ht; cases ht
      | some k1 =>
        rw [e1] at ht
        simp only [Option.bind_some] at ht
        cases e2 : muAt k1.2 i with
        | none => rw [e2] at ht; cases ht
        | some ds =>
          rw [e2] at ht
          simp only [Option.bind_some] at ht
          refine h.fz E (ρ' := p.2) (s := p.1) e fun v G1 H1 x1 E1 p1 => ?_
          obtain ⟨a, vs0, qa, _, _, _⟩ := E1.mu e0
          refine ⟨_, qa, hk.fz E1 (ρ' := k1.2) (s := k1.1) e1 fun w G2 H2 x2 E2 p2 => ?_⟩
          obtain ⟨a', vs, qa', ha, ra, _⟩ := E2.mu e2
          rw [qa] at qa'
          cases qa'
          split at ht
          · rename_i kk ek
            rw [ek] at p2
            cases e3 : ixN ds.length kk with
            | none => rw [e3] at ht; cases ht
            | some j =>
              rw [e3] at ht
              cases ht
              exact ⟨a, vs, kk, j, rfl, dp_int p2, ha, by rw [dps_len ra]; exact e3, q G2 _ σ (x1.trans x2) (E2.muSet e2 qa (dps_set j ra (dp_mono x2.ex _ _ p1)))⟩
          · cases ht
theorem d_sub (i : Nat) {x : Str} {px ps : Pos} (hk : DE K X b tb rB) (h : DE K X e te t) (hN : X.N[i]? = some x := by rfl) (hv : Vis X.env.scope x := by first | exact Or.inl rfl | exact Or.inr (Or.inl rfl) | exact Or.inr (Or.inr rfl))
    (hd : (x == ("__debug__" : Str)) = false := by decide) (hcd : (x == ("__classdict__" : Str)) = false := by decide)
    (ha : ∀ v, assign (.Subscript (.Name x px) b ps) X.env v = (do
      let ov ← holding [v] (eval (.Name x px) X.env)
      let iv ← holding [v, ov] (eval b X.env)
      standAt ps
      holding [v, ov, iv] (setItem ov iv v)
      release [v, ov, iv] []) := by intro _; rfl)
    (hs : swapsWithSole [.Subscript (.Name x px) b ps] e pos.line X.env = pure false := by rfl) (hw : swappedStores [.Subscript (.Name x px) b ps] e X.env = pure none := by rfl)
    (h1 : (assignEach [.Subscript (.Name x px) b ps] X.env).map (·.2) = [assign (.Subscript (.Name x px) b ps) X.env] := by rfl) :
    DS K X (.Assign [.Subscript (.Name x px) b ps] e pos) (tAsg te (gSub (tVar i) tb rSetL)) (rsSub i rB t) :=
  ⟨ps_asg h.pe (pg_sub (pe_var hN hv hd hcd) hk.pe set_list ha) hs hw h1, fun F => sk_sub i (hk.ek F) (h.ek F)⟩
/-- x += e, ints -/
def rsAug (i : Nat) (g : Int → Int → Int) (t : RE) : RS := fun ρ => match ρ[i]? with
  | some (some (.val (.int k))) => (t ρ).bind fun p => (match p.1.d with
    | .int j => some (.nx (p.2.set i (some (.val (.int (g k j))))))
    | _ => none)
  | _ => none
theorem sk_aug (i : Nat) {g : Int → Int → Int} (h : EK K F te t) : SK K F (tAug i te (ipI g)) (rsAug i g t) := by
  intro G H σ ρ o D E ht q
  unfold rsAug at ht
  split at ht
  · rename_i k ek
    obtain ⟨v, qv, rv⟩ := E.slot i _ ek
    cases e : t ρ with
    | none => rw [e] at ht; cases ht
    | some p =>
      rw [e] at ht
      simp only [Option.bind_some] at ht
      refine ⟨v, qv, h.fz E (ρ' := p.2) (s := p.1) e fun w G1 H1 x1 E1 p1 => ?_⟩
      split at ht
      · rename_i j ej
        cases ht
        rw [ej] at p1
        exact ⟨k, j, dp_int rv, dp_int p1, q G1 H1 _ x1 (E1.setVal i (.int _))⟩
      · cases ht
  · cases ht
theorem d_augA (i : Nat) {x : Str} {pos' : Pos} (h : DE K X e te t) (hN : X.N.Nodup) (hi : X.N[i]? = some x := by rfl) (hx : Loc X.env.scope x := by first | exact Or.inl rfl | exact Or.inr rfl)
    (hf : X.fn x = true ∨ X.env.scope.names.lookup x = some .local := by first | exact .inl rfl | exact .inr rfl) : DS K X (.AugAssign (.Name x pos') .Add e pos) (tAug i te (ipI fun i j => i + j)) (rsAug i (fun i j => i + j) t) :=
  ⟨ps_aug hN hi hx h.pe ip_add hf, fun F => sk_aug i (h.ek F)⟩
/-- x[k] += e, ints, x a name's own list -/
def rsAugS (i : Nat) (g : Int → Int → Int) (tk : RE) (t : RE) : RS := fun ρ => (muAt ρ i).bind fun _ => (tk ρ).bind fun q => (muAt q.2 i).bind fun ds0 => match q.1.d with
  | .int k => (match atI ds0 k with
    | some (.int z) => (t q.2).bind fun p => (muAt p.2 i).bind fun ds => (match p.1.d with
      | .int y => (ixN ds.length k).map fun j => .nx (muSet p.2 i (ds.set j (.int (g z y))))
      | _ => none)
    | _ => none)
  | _ => none
theorem pget_list : PGet X (rIxL X.K) := by
  intro pins s σ H x y v u Q I rx ry h
  obtain ⟨p, xs, i, z, rfl, rfl, hq, he, q⟩ := h
  cases rx
  obtain ⟨t, rfl⟩ := ry
  obtain ⟨its, r, pl, hz⟩ := I.list hq
  obtain ⟨j, h1, h2, h3, h4, h5⟩ := atI_get he
  obtain ⟨w, ew, rw'⟩ := r.get h2
  have hl := r.length
  have hn := line63
  have fin : EP X pins σ Q w s := ⟨z, H, I, rw', q⟩
  by_cases h0 : 0 ≤ i
  · have hj : i.toNat = j := by
      rw [seqIndex_of h0 h5] at h1
      exact Option.some.inj h1
    exact PySem.wpAny_getItem_list pl.isList h0 (by omega) (by rw [hj]; simpa using ew) fin
  · have hj : (i + (its.toArray.size : Int)).toNat = j := by
      rw [seqIndex_neg (by omega) h4] at h1
      rw [List.size_toArray, ← hl]
      exact Option.some.inj h1
    exact PySem.wpAny_getItem_list_neg (Q := EP X pins σ Q) pl.isList (by omega) (by rw [List.size_toArray] <;> omega) (by omega) (by rw [hj]; simpa using ew) fin
theorem sk_augS (i : Nat) {g : Int → Int → Int} (hk : EK K F tb rB) (h : EK K F te t) : SK K F (tAugS (tVar i) tb te (rIxL K) (ipI g) rSetL) (rsAugS i g rB t) := by
  intro G H σ ρ o D E ht q
  unfold rsAugS at ht
  cases e0 : muAt ρ i with
  | none => rw [e0] at ht; cases ht
  | some d0 =>
    rw [e0] at ht
    simp only [Option.bind_some] at ht
    cases e1 : rB ρ with
    | none => rw [e1] at ht; cases ht
    | some k1 =>
      rw [e1] at ht
      simp only [Option.bind_some] at ht
      cases e2 : muAt k1.2 i with
      | none => rw [e2] at ht; cases ht
      | some ds0 =>
        rw [e2] at ht
        simp only [Option.bind_some] at ht
        obtain ⟨a, vs0, qa, _, _, _⟩ := E.mu e0
        refine ⟨_, qa, hk.fz E (ρ' := k1.2) (s := k1.1) e1 fun w G1 H1 x1 E1 p1 => ?_⟩
        obtain ⟨a', vs, qa', ha, ra, _⟩ := E1.mu e2
        rw [qa] at qa'
        cases qa'
        split at ht
        · rename_i kk ek
          rw [ek] at p1
          split at ht
          · rename_i z ez
            obtain ⟨zv, hzv, rzv⟩ := at_rps ra ez
            refine ⟨a, vs, kk, zv, rfl, dp_int p1, SqL.of ha, hzv, ?_⟩
            cases e3 : t k1.2 with
            | none => rw [e3] at ht; cases ht
            | some p =>
              rw [e3] at ht
              simp only [Option.bind_some] at ht
              cases e4 : muAt p.2 i with
              | none => rw [e4] at ht; cases ht
              | some ds =>
                rw [e4] at ht
                simp only [Option.bind_some] at ht
                refine h.fz E1 (ρ' := p.2) (s := p.1) e3 fun y G2 H2 x2 E2 p2 => ?_
                obtain ⟨a', vs2, qa', ha2, ra2, _⟩ := E2.mu e4
                rw [qa] at qa'
                cases qa'
                split at ht
                · rename_i yy ey
                  rw [ey] at p2
                  cases e5 : ixN ds.length kk with
                  | none => rw [e5] at ht; cases ht
                  | some j =>
                    rw [e5] at ht
                    cases ht
                    refine ⟨z, yy, dp_int rzv, dp_int p2, a, vs2, kk, j, rfl, dp_int p1, ha2, by rw [dps_len ra2]; exact e5, ?_⟩
                    exact q G2 _ σ (x1.trans x2) (E2.muSet e4 qa (dps_set j ra2 (.int _)))
                · cases ht
          · cases ht
        · cases ht
theorem d_augS (i : Nat) {x : Str} {px ps : Pos} (hk : DE K X b tb rB) (h : DE K X e te t) (hK : X.K = K := by rfl) (hN : X.N[i]? = some x := by rfl) (hv : Vis X.env.scope x := by first | exact Or.inl rfl | exact Or.inr (Or.inl rfl) | exact Or.inr (Or.inr rfl))
    (hd : (x == ("__debug__" : Str)) = false := by decide) (hcd : (x == ("__classdict__" : Str)) = false := by decide)
    (ha : ∀ ov iv new, augStore b ov iv new = (do holding [new, ov, iv] (setItem ov iv new); release [new, ov, iv] []; pure .next) := by intros; rfl) :
    DS K X (.AugAssign (.Subscript (.Name x px) b ps) .Add e pos) (tAugS (tVar i) tb te (rIxL K) (ipI fun i j => i + j) rSetL) (rsAugS i (fun i j => i + j) rB t) := by
  subst hK
  exact ⟨ps_augS (pe_var hN hv hd hcd) hk.pe pget_list h.pe ip_add set_list ha, fun F => sk_augS i (hk.ek F) (h.ek F)⟩
end
end DL

set_option Elab.async false
set_option linter.all false
set_option maxRecDepth 100000
set_option maxHeartbeats 4000000
namespace DL
open PySem L2
/-! ### what a loop walks -/
structure ItOk (K : PySem.W.Frag) (J : It) (G : Hp) (ds : List D) : Prop where
  go : ∀ i H, Same G H → i < ds.length → J.go i H
  stop : ∀ i H, Same G H → ds.length ≤ i → J.stop i H
  yld : ∀ i H x H', Same G H → i < ds.length → J.yld i H x H' → H' = H ∧ ∃ d, ds[i]? = some d ∧ RP K G x d
theorem ItOk.mono {K : PySem.W.Frag} {J : It} {G G' : Hp} {ds : List D} (h : ItOk K J G ds) (x : Same G G') : ItOk K J G' ds :=
  ⟨fun i H e => h.go i H (fun a o q => e a o (x a o q)), fun i H e => h.stop i H (fun a o q => e a o (x a o q)), fun i H y H' e hi q =>
    let ⟨a, d, b, c⟩ := h.yld i H y H' (fun a o q => e a o (x a o q)) hi q
    ⟨a, d, b, dp_mono x _ _ c⟩⟩
def IK (K : PySem.W.Frag) (F : Fr) (wi : TI) (t : RA) : Prop :=
  ∀ (G H : Hp) (σ : L2.St) (ρ ρ' : En) (ds : List D), ER K F G H σ ρ → t ρ = some (ds, ρ') → ∀ R : It → Hp → Prop, (∀ J G' H', Ext F G G' → ER K F G' H' σ ρ' → ItOk K J G' ds → R J H') → wi σ H R
structure DI (K : PySem.W.Frag) (X : Cx) (tg iter : Expr) (wi : TI) (t : RA) : Prop where
  pi : PI X tg iter wi
  ik : ∀ F, IK K F wi t
section
variable {K : PySem.W.Frag} {X : Cx} {F : Fr} {G H : Hp} {σ : L2.St} {ρ ρ' : En} {s : S} {te : TE} {t : RE} {e a b c tg iter : Expr} {es : List Expr} {ta tb tc : TE} {rA rB rC : RE} {pos p : Pos} {tas : TA} {rAs : RA}
  {st : Stmt} {rest sa sb body : List Stmt} {ts us tbd : TS} {r1 r2 : RS} {tt : TT} {u : RT} {wi : TI} {rI : RA} {g : TG} {rG : RG} {is : List Nat}
theorem itt_ok {a : Addr} {vs : List V} {ds : List D} (h : SqT K G a vs) (r : RPs K G vs ds) : ItOk K (Itt K a) G ds where
  go := fun i H x hi => by
    rw [← dps_len r] at hi
    exact ⟨vs, vs[i], same_t x h, by simp [hi]⟩
  stop := fun i H x hi => by
    rw [← dps_len r] at hi
    exact ⟨vs, same_t x h, hi⟩
  yld := fun i H x H' e hi q => by
    obtain ⟨e1, q⟩ := q
    obtain ⟨d, h1, h2⟩ := dps_getv r (q vs (same_t e h))
    exact ⟨e1, d, h1, h2⟩
theorem itl_ok' {a : Addr} {vs : List V} {ds : List D} (h : SqL K G a vs) (r : RPs K G vs ds) : ItOk K (Itl K a) G ds where
  go := fun i H x hi => by
    rw [← dps_len r] at hi
    exact ⟨vs, vs[i], x.seq h, by simp [hi]⟩
  stop := fun i H x hi => by
    rw [← dps_len r] at hi
    exact ⟨vs, x.seq h, hi⟩
  yld := fun i H x H' e hi q => by
    obtain ⟨e1, q⟩ := q
    obtain ⟨d, h1, h2⟩ := dps_getv r (q vs (e.seq h))
    exact ⟨e1, d, h1, h2⟩
/-- a list or a tuple, whichever has come -/
def iSeq (K : PySem.W.Frag) (tl : TE) : TI := fun σ H R => tl σ H fun x H1 => ∃ a, x = .ref a ∧ (((∃ xs, SqL K H1 a xs) ∧ R (Itl K a) H1) ∨ ((∃ xs, SqT K H1 a xs) ∧ R (Itt K a) H1))
theorem pi_seq {l : Expr} {tl : TE} (hl : PE X l tl) : PI X tg l (iSeq X.K tl) := by
  refine ⟨fun pins s σ H R I h => ?_⟩
  refine thn (hl.run pins s σ H _ I h) fun v s1 ⟨x, H1, I1, r1, q1⟩ => ?_
  obtain ⟨a, e, q⟩ := q1
  subst e
  cases r1
  rcases q with ⟨⟨xs, hq⟩, q⟩ | ⟨⟨xs, hq⟩, q⟩
  · obtain ⟨its, rv, p, hz⟩ := I1.list hq
    refine wpAny_pyIter_list p.isList ?_
    refine ⟨s1.heap.objs.size, [s1.heap.objs.size], _, _, H1, rfl, I1.kept (t' := s1.toks) fun b o e => Heap.get?_push_of_some _ e, turn_list a _, ⟨_, Heap.get?_push_size _ rfl, rfl, rfl⟩, fun b hb => ?_, q⟩
    have e : b = s1.heap.objs.size := by simpa using hb
    subst e
    exact I1.fpOk (Nat.le_refl _) (I1.hok.fresh (Nat.le_refl _))
  · obtain ⟨its, rv, p, hz⟩ := I1.tuple hq
    refine wpAny_pyIter_tuple (show s1.heap.IsTuple a its.toArray from p) ?_
    refine ⟨s1.heap.objs.size, [s1.heap.objs.size], _, _, H1, rfl, I1.kept (t' := s1.toks) fun b o e => Heap.get?_push_of_some _ e, turn_tuple a _, ⟨_, Heap.get?_push_size _ rfl, rfl, rfl⟩, fun b hb => ?_, q⟩
    have e : b = s1.heap.objs.size := by simpa using hb
    subst e
    exact I1.fpOk (Nat.le_refl _) (I1.hok.fresh (Nat.le_refl _))
def riSeq (t : RE) : RA := fun ρ => (t ρ).bind fun p => (seqD p.1.d).map fun ds => (ds, p.2)
theorem ik_seq (h : EK K F te t) : IK K F (iSeq K te) (riSeq t) := by
  intro G H σ ρ ρ' ds E ht R q
  unfold riSeq at ht
  cases e1 : t ρ with
  | none => rw [e1] at ht; cases ht
  | some p =>
    rw [e1] at ht
    simp only [Option.bind_some] at ht
    cases e2 : seqD p.1.d with
    | none => rw [e2] at ht; cases ht
    | some xs =>
      rw [e2] at ht
      cases ht
      refine h.fz E (ρ' := p.2) (s := p.1) e1 fun x G1 H1 x1 E1 p1 => ?_
      generalize p.1.d = d at p1 e2
      cases d with
      | list ys =>
        cases e2
        obtain ⟨a, vs, rfl, ga, ra⟩ := dp_lst p1
        exact ⟨a, rfl, .inl ⟨⟨vs, SqL.of (E1.exG _ _ ga)⟩, q _ G1 H1 x1 E1 (itl_ok' (SqL.of ga) ra)⟩⟩
      | tuple ys =>
        cases e2
        obtain ⟨a, vs, rfl, ga, ra⟩ := dp_tup p1
        exact ⟨a, rfl, .inr ⟨⟨vs, same_t E1.exG ga⟩, q _ G1 H1 x1 E1 (itt_ok ga ra)⟩⟩
      | none => cases e2
      | bool _ => cases e2
      | int _ => cases e2
      | str _ => cases e2
      | dict _ => cases e2
theorem di_seq (h : DE K X iter te t) (hK : X.K = K := by rfl) : DI K X tg iter (iSeq K te) (riSeq t) := by
  subst hK
  exact ⟨pi_seq h.pe, fun F => ik_seq (h.ek F)⟩
/-- the script -/
def riFro (i : Nat) : RA := fun ρ => match ρ[i]? with
  | some (some (.fro ds)) => some (ds, ρ)
  | _ => none
theorem ik_fro (i : Nat) : IK K F (iSeq K (tVar i)) (riFro i) := by
  intro G H σ ρ ρ' ds E ht R q
  unfold riFro at ht
  split at ht
  · rename_i xs e
    cases ht
    obtain ⟨v, qv, a, vs, rfl, hs, k⟩ := E.slot i _ e
    exact ⟨_, qv, a, rfl, .inl ⟨⟨vs, E.exG.seq hs⟩, q _ G H (Ext.refl F G) E (itl_ok' hs k)⟩⟩
  · cases ht
theorem di_fro (i : Nat) {x : Str} (hK : X.K = K := by rfl) (hN : X.N[i]? = some x := by rfl) (hv : Vis X.env.scope x := by first | exact Or.inl rfl | exact Or.inr (Or.inl rfl) | exact Or.inr (Or.inr rfl)) (hd : (x == ("__debug__" : Str)) = false := by decide)
    (hcd : (x == ("__classdict__" : Str)) = false := by decide) : DI K X tg (.Name x pos) (iSeq K (tVar i)) (riFro i) := by
  subst hK
  exact ⟨pi_seq (pe_var hN hv hd hcd), fun F => ik_fro i⟩
/-! ranges -/
def rng (lo : Int) (n : Nat) : List D := (List.range n).map fun k => PyData.int (lo + (k : Nat))
theorem rng_len (lo : Int) (n : Nat) : (rng lo n).length = n := by simp [rng]
theorem itr_ok (lo : Int) (n : Nat) : ItOk K (Itr lo n) G (rng lo n) where
  go := fun i H x hi => by
    rw [rng_len] at hi
    exact hi
  stop := fun i H x hi => by
    rw [rng_len] at hi
    exact hi
  yld := fun i H x H' e hi q => by
    obtain ⟨e1, q⟩ := q
    subst q
    rw [rng_len] at hi
    refine ⟨e1, .int (lo + (i : Nat)), ?_, .int _⟩
    unfold rng
    rw [List.getElem?_map, List.getElem?_range hi]
    rfl
def riRng1 (t : RE) : RA := fun ρ => (t ρ).bind fun p => match p.1.d with
  | .int j => if -(2 ^ 62) ≤ j ∧ j < 2 ^ 62 then some (rng 0 j.toNat, p.2) else none
  | _ => none
def riRng2 (t u : RE) : RA := fun ρ => (t ρ).bind fun p => (u p.2).bind fun q => match p.1.d, q.1.d with
  | .int i, .int j => if -(2 ^ 62) ≤ i ∧ i < 2 ^ 62 ∧ -(2 ^ 62) ≤ j ∧ j < 2 ^ 62 then some (rng i (j - i).toNat, q.2) else none
  | _, _ => none
theorem ik_rng1 (h : EK K F ta rA) : IK K F (iRng1 (tCons ta tNil)) (riRng1 rA) := by
  intro G H σ ρ ρ' ds E ht R q
  unfold riRng1 at ht
  cases e1 : rA ρ with
  | none => rw [e1] at ht; cases ht
  | some p =>
    rw [e1] at ht
    simp only [Option.bind_some] at ht
    refine h.fz E (ρ' := p.2) (s := p.1) e1 fun x G1 H1 x1 E1 p1 => ?_
    split at ht
    · rename_i j ej
      split at ht
      · rename_i hj
        cases ht
        rw [ej] at p1
        exact ⟨j, by rw [dp_int p1], hj.1, hj.2, q _ G1 H1 x1 E1 (itr_ok 0 j.toNat)⟩
      · cases ht
    · cases ht
theorem ik_rng2 (h : EK K F ta rA) (h' : EK K F tb rB) : IK K F (iRng2 (tCons ta (tCons tb tNil))) (riRng2 rA rB) := by
  intro G H σ ρ ρ' ds E ht R q
  unfold riRng2 at ht
  cases e1 : rA ρ with
  | none => rw [e1] at ht; cases ht
  | some p =>
    rw [e1] at ht
    simp only [Option.bind_some] at ht
    cases e2 : rB p.2 with
    | none => rw [e2] at ht; cases ht
    | some p' =>
      rw [e2] at ht
      simp only [Option.bind_some] at ht
      refine h.fz E (ρ' := p.2) (s := p.1) e1 fun x G1 H1 x1 E1 p1 => h'.fz E1 (ρ' := p'.2) (s := p'.1) e2 fun y G2 H2 x2 E2 p2 => ?_
      split at ht
      · rename_i i j ei ej
        split at ht
        · rename_i hj
          cases ht
          rw [ei] at p1
          rw [ej] at p2
          exact ⟨i, j, by rw [dp_int p1, dp_int p2], hj, q _ G2 H2 (x1.trans x2) E2 (itr_ok i (j - i).toNat)⟩
        · cases ht
      · cases ht
theorem di_rng1 (h : DE K X a ta rA) (hm : X.mg ("range" : Str) = none) (hg : Gl X ("range" : Str) := by rfl) (hs : starEach [a] X.env = [(false, eval a X.env)] := by rfl)
    (hs' : starEach [a] X.env = (false, eval a X.env) :: starEach [] X.env := by rfl) : DI K X tg (.Call (.Name "range" p) [a] [] pos) (iRng1 (tCons ta tNil)) (riRng1 rA) :=
  ⟨pi_range1 hg hm (pa_cons h.pe pa_nil hs') hs, fun F => ik_rng1 (h.ek F)⟩
theorem di_rng2 (h : DE K X a ta rA) (h' : DE K X b tb rB) (hm : X.mg ("range" : Str) = none) (hg : Gl X ("range" : Str) := by rfl) (hs : starEach [a, b] X.env = [(false, eval a X.env), (false, eval b X.env)] := by rfl) (hs2 : starEach [b] X.env = [(false, eval b X.env)] := by rfl)
    (hs' : starEach [a, b] X.env = (false, eval a X.env) :: starEach [b] X.env := by rfl) (hs2' : starEach [b] X.env = (false, eval b X.env) :: starEach [] X.env := by rfl) :
    DI K X tg (.Call (.Name "range" p) [a, b] [] pos) (iRng2 (tCons ta (tCons tb tNil))) (riRng2 rA rB) :=
  ⟨pi_range2 hg hm (pa_cons h.pe (pa_cons h'.pe pa_nil hs2') hs') hs hs2, fun F => ik_rng2 (h.ek F) (h'.ek F)⟩

/-! ### for -/
def forGo (g : RG) (b : RS) (ks : List Nat) : List D → En → Option Out
  | [], ρ => some (.nx ρ)
  | d :: ds, ρ => (g d ρ).bind fun ρ1 => (b ρ1).bind fun o => match o with
    | .nx ρ2 => forGo g b ks ds (killE ks ρ2)
    | .ct ρ2 => forGo g b ks ds (killE ks ρ2)
    | .bk ρ2 => some (.nx (killE ks ρ2))
    | .rt s ρ2 => some (.rt s ρ2)
def rsFor (it : RA) (g : RG) (b : RS) (ks : List Nat) : RS := fun ρ => (it ρ).bind fun p => forGo g b ks p.1 (killE ks p.2)
theorem sk_for (ks : List Nat) (hi : IK K F wi rI) (hg : GK K F g rG is) (hb : SK K F tbd r1) : SK K F (tFor wi g tbd) (rsFor rI rG r1 ks) := by
  intro G H σ ρ o D E ht q
  unfold rsFor at ht
  cases e1 : rI ρ with
  | none => rw [e1] at ht; cases ht
  | some p =>
    rw [e1] at ht
    simp only [Option.bind_some] at ht
    refine hi G H σ ρ p.2 p.1 E e1 _ fun J G1 H1 x1 E1 io => ?_
    refine ⟨fun i m σ H => m = p.1.length - i ∧ i ≤ p.1.length ∧ ∃ G2 ρ2, Ext F G1 G2 ∧ ER K F G2 H σ ρ2 ∧ forGo rG r1 ks (p.1.drop i) ρ2 = some o,
      ⟨_, rfl, Nat.zero_le _, G1, _, Ext.refl F G1, ER.kills ks E1, by rw [List.drop_zero]; exact ht⟩, ?_⟩
    rintro i m σ2 H2 ⟨rfl, hle, G2, ρ2, x2, E2, h2⟩
    have io2 := io.mono x2.ex
    by_cases hlt : i < p.1.length
    · right
      refine ⟨io2.go i H2 E2.exG hlt, ?_⟩
      have hd : p.1.drop i = p.1[i] :: p.1.drop (i + 1) := List.drop_eq_getElem_cons hlt
      rw [hd] at h2
      unfold forGo at h2
      cases e2 : rG p.1[i] ρ2 with
      | none => rw [e2] at h2; cases h2
      | some ρ3 =>
        rw [e2] at h2
        simp only [Option.bind_some] at h2
        cases e3 : r1 ρ3 with
        | none => rw [e3] at h2; cases h2
        | some o3 =>
          rw [e3] at h2
          simp only [Option.bind_some] at h2
          refine ⟨fun σ' H' => ∃ G2 ρ2, Ext F G1 G2 ∧ ER K F G2 H' σ' ρ2 ∧ forGo rG r1 ks (p.1.drop (i + 1)) ρ2 = some o, fun σ' H' ⟨G4, ρ4, x4, E4, h4⟩ => ⟨_, by omega, rfl, hlt, G4, ρ4, x4, E4, h4⟩, fun x H' hy => ?_⟩
          obtain ⟨e, d, hd1, rd⟩ := io2.yld i H2 x H' E2.exG hlt hy
          subst e
          have hdd : p.1[i] = d := by
            rw [List.getElem?_eq_getElem hlt] at hd1
            exact Option.some.inj hd1
          subst hdd
          refine hg G2 H' σ2 ρ2 ρ3 x _ E2 rd e2 _ fun G3 H3 σ3 x3 E3 _ => ?_
          refine hb G3 H3 σ3 ρ3 o3 _ E3 e3 ?_
          have x13 := x2.trans x3
          cases o3 with
          | nx ρ4 => exact fun G' H' σ' x' E' => ⟨G', _, x13.trans x', ER.kills ks E', h2⟩
          | ct ρ4 => exact fun G' H' σ' x' E' => ⟨G', _, x13.trans x', ER.kills ks E', h2⟩
          | bk ρ4 =>
            cases h2
            exact fun G' H' σ' x' E' => q G' H' σ' (x1.trans (x13.trans x')) (ER.kills ks E')
          | rt s ρ4 =>
            cases h2
            exact fun v G' H' σ' x' E' r => q v G' H' σ' (x1.trans (x13.trans x')) E' r
    · left
      have hi : i = p.1.length := by omega
      refine ⟨io2.stop i H2 E2.exG (by omega), ?_⟩
      rw [List.drop_of_length_le (by omega)] at h2
      cases h2
      exact q G2 H2 σ2 (x1.trans x2) E2
theorem d_for (ks : List Nat) (hi : DI K X tg iter wi rI) (hg : DG K X tg g rG is) (hb : DSs K X body tbd r1) (hp : PassesOwn (model X.prog X.w) X.A X.env X.xe := by exact PassesOwn.never) (hc : X.calm = true := by rfl)
    (hs : ∀ x, foldedSetIterable iter X.env x = pure x := by intro _; rfl) : DS K X (.For tg iter body [] pos) (tFor wi g tbd) (rsFor rI rG r1 ks) :=
  ⟨ps_for hp hc hi.pi hg.pg hb.ps hs, fun F => sk_for ks (hi.ik F) (hg.gk F) (hb.sk F)⟩
/-! ### while -/
def whGo (c : RT) (b : RS) (ks : List Nat) : Nat → En → Option Out
  | 0, _ => none
  | n + 1, ρ => (c ρ).bind fun p => if p.1 = true then (b p.2).bind fun o => match o with
      | .nx ρ2 => whGo c b ks n (killE ks ρ2)
      | .ct ρ2 => whGo c b ks n (killE ks ρ2)
      | .bk ρ2 => some (.nx (killE ks ρ2))
      | .rt s ρ2 => some (.rt s ρ2)
    else some (.nx (killE ks p.2))
def rsWh (n : Nat) (c : RT) (b : RS) (ks : List Nat) : RS := fun ρ => whGo c b ks n (killE ks ρ)
theorem sk_while (n : Nat) (ks : List Nat) (hc : TK K F tt u) (hb : SK K F tbd r1) : SK K F (tWhile tt tbd) (rsWh n u r1 ks) := by
  intro G H σ ρ o D E ht q
  refine ⟨fun m σ H => ∃ G2 ρ2, Ext F G G2 ∧ ER K F G2 H σ ρ2 ∧ whGo u r1 ks m ρ2 = some o, ⟨n, G, _, Ext.refl F G, ER.kills ks E, ht⟩, ?_⟩
  rintro m σ2 H2 ⟨G2, ρ2, x2, E2, h2⟩
  cases m with
  | zero => cases h2
  | succ m =>
    unfold whGo at h2
    cases e1 : u ρ2 with
    | none => rw [e1] at h2; cases h2
    | some p =>
      rw [e1] at h2
      obtain ⟨bo, ρ3⟩ := p
      simp only [Option.bind_some] at h2
      refine hc G2 H2 σ2 ρ2 ρ3 bo E2 e1 _ fun G3 H3 x3 E3 => ?_
      have x13 := x2.trans x3
      cases bo with
      | true =>
        rw [if_pos rfl] at h2 ⊢
        cases e3 : r1 ρ3 with
        | none => rw [e3] at h2; cases h2
        | some o3 =>
          rw [e3] at h2
          simp only [Option.bind_some] at h2
          refine ⟨fun σ' H' => ∃ G2 ρ2, Ext F G G2 ∧ ER K F G2 H' σ' ρ2 ∧ whGo u r1 ks m ρ2 = some o, fun σ' H' ⟨G4, ρ4, x4, E4, h4⟩ => ⟨m, Nat.lt_succ_self m, G4, ρ4, x4, E4, h4⟩, ?_⟩
          refine hb G3 H3 σ2 ρ3 o3 _ E3 e3 ?_
          cases o3 with
          | nx ρ4 => exact fun G' H' σ' x' E' => ⟨G', _, x13.trans x', ER.kills ks E', h2⟩
          | ct ρ4 => exact fun G' H' σ' x' E' => ⟨G', _, x13.trans x', ER.kills ks E', h2⟩
          | bk ρ4 =>
            cases h2
            exact fun G' H' σ' x' E' => q G' H' σ' (x13.trans x') (ER.kills ks E')
          | rt s ρ4 =>
            cases h2
            exact fun v G' H' σ' x' E' r => q v G' H' σ' (x13.trans x') E' r
      | false =>
        rw [if_neg Bool.false_ne_true] at h2 ⊢
        cases h2
        exact q G3 H3 σ2 x13 (ER.kills ks E3)
theorem d_while (n : Nat) (ks : List Nat) (hc : DT K X c tt u) (hb : DSs K X body tbd r1) (hp : PassesOwn (model X.prog X.w) X.A X.env X.xe := by exact PassesOwn.never) : DS K X (.While c body [] pos) (tWhile tt tbd) (rsWh n u r1 ks) :=
  ⟨ps_while hp hc.pt hb.ps, fun F => sk_while n ks (hc.tk F) (hb.sk F)⟩

/-! ### list comprehensions -/
def Fr.guard (F : Fr) (L : Addr) (o : HO) : Fr := ⟨upd F.B L o, F.L, F.ba⟩
theorem ER.guard (E : ER K F G H σ ρ) {L : Addr} {o : HO} (h : H L = some o) (n : New F L) (g : G L = none) (sp : ∀ (i : Nat) (s : S), ρ[i]? = some (some s) → s.mu = true → σ[i]? ≠ some (some (.ref L))) : ER K (F.guard L o) G H σ ρ := by
  refine ⟨E.len, fun b u z => ?_, E.exG, E.exL, fun b z => ?_, fun i s e => ?_, E.sep⟩
  · by_cases hb : b = L
    · subst hb
      have z' : upd F.B b o b = some u := z
      rw [upd_same] at z'
      cases z'
      exact h
    · have z' : upd F.B L o b = some u := z
      rw [upd_ne hb] at z'
      exact E.exB b u z'
  · show upd F.B L o b = none
    rw [upd_ne (fun w => n.2 (by rw [← w]; exact z))]
    exact E.nbL b z
  · obtain ⟨v, q, r⟩ := E.slot i s e
    refine ⟨v, q, ?_⟩
    cases s with
    | val d => exact r
    | fro d => exact r
    | own ds =>
      obtain ⟨a, vs, rfl, w, g', h', k⟩ := r
      refine ⟨a, vs, rfl, ⟨?_, w.2⟩, g', h', k⟩
      show upd F.B L o a = none
      rw [upd_ne (fun z => sp i _ e rfl (by rw [← z]; exact q))]
      exact w.1
    | bor ds => exact r
theorem New.unguard {L a : Addr} {o : HO} (n : New (F.guard L o) a) : New F a ∧ a ≠ L := by
  have ne : a ≠ L := fun z => by
    have := n.1
    subst z
    have z' : upd F.B a o a = none := this
    rw [upd_same] at z'
    cases z'
  refine ⟨⟨?_, n.2⟩, ne⟩
  have z' : upd F.B L o a = none := n.1
  rw [upd_ne ne] at z'
  exact z'
theorem ER.unguard {L : Addr} {o : HO} (n : New F L) (E : ER K (F.guard L o) G H σ ρ) : ER K F G H σ ρ ∧ H L = some o ∧ (∀ (i : Nat) (s : S), ρ[i]? = some (some s) → s.mu = true → σ[i]? ≠ some (some (.ref L))) := by
  have hL : H L = some o := E.exB L o (by show upd F.B L o L = some o; exact upd_same)
  refine ⟨⟨E.len, fun b u z => E.exB b u ?_, E.exG, E.exL, fun b z => ?_, fun i s e => ?_, E.sep⟩, hL, fun i s e m q => ?_⟩
  · show upd F.B L o b = some u
    rw [upd_ne (fun w => by rw [w, n.1] at z; cases z)]
    exact z
  · have z' : upd F.B L o b = none := E.nbL b z
    rw [upd_ne (fun w => n.2 (by rw [← w]; exact z))] at z'
    exact z'
  · obtain ⟨v, q, r⟩ := E.slot i s e
    refine ⟨v, q, ?_⟩
    cases s with
    | val d => exact r
    | fro d => exact r
    | own ds =>
      obtain ⟨a, vs, rfl, w, g', h', k⟩ := r
      exact ⟨a, vs, rfl, (New.unguard w).1, g', h', k⟩
    | bor ds => exact r
  · obtain ⟨v, q', r⟩ := E.slot i s e
    rw [q] at q'
    cases q'
    cases s with
    | val d => cases m
    | fro d => cases m
    | own ds =>
      obtain ⟨a, vs, e1, w, g', h', k⟩ := r
      cases e1
      exact (New.unguard w).2 rfl
    | bor ds =>
      obtain ⟨vs, e1, w, g', h', k⟩ := r
      have : L = F.ba i := V.ref.inj e1
      exact n.2 (by rw [this]; exact w)
theorem Ext.unguard {G' : Hp} {L : Addr} {o : HO} (n : New F L) (g : G L = none) (x : Ext (F.guard L o) G G') : Ext F G G' ∧ G' L = none := by
  refine ⟨⟨x.ex, fun a h k => (New.unguard (x.new a h k)).1⟩, ?_⟩
  cases z : G' L with
  | none => rfl
  | some u => exact absurd rfl (New.unguard (x.new L g (by rw [z]; intro w; cases w))).2
/-- the block's own slots are not known within it from turn to turn -/
def wipeE : List Nat → En → En
  | [], ρ => ρ
  | i :: r, ρ => (wipeE r ρ).set i none
theorem ER.wipe : ∀ (vs : List Nat), ER K F G H σ ρ → ER K F G H (wipe σ vs) (wipeE vs ρ)
  | [], E => E
  | i :: r, E => by
    have E1 := ER.wipe r E
    have key : ∀ (j : Nat) (s : S), ((wipeE r ρ).set i none)[j]? = some (some s) → j ≠ i ∧ (wipeE r ρ)[j]? = some (some s) := fun j s e => by
      by_cases h : j = i
      · subst h
        by_cases hl : j < (wipeE r ρ).length
        · rw [List.getElem?_set_self hl] at e; cases e
        · rw [List.getElem?_eq_none (by simp; omega)] at e; cases e
      · rw [List.getElem?_set_ne (Ne.symm h)] at e
        exact ⟨h, e⟩
    show ER K F G H ((L2.wipe σ r).set i none) ((wipeE r ρ).set i none)
    refine ⟨by simpa using E1.len, E1.exB, E1.exG, E1.exL, E1.nbL, fun j s e => ?_, fun j k s t a h e1 e2 m1 m2 q1 q2 => ?_⟩
    · obtain ⟨hj, e'⟩ := key j s e
      obtain ⟨v, q, rr⟩ := E1.slot j s e'
      exact ⟨v, by rw [List.getElem?_set_ne (Ne.symm hj)]; exact q, rr⟩
    · obtain ⟨hj, e1'⟩ := key j s e1
      obtain ⟨hk, e2'⟩ := key k t e2
      rw [List.getElem?_set_ne (Ne.symm hj)] at q1
      rw [List.getElem?_set_ne (Ne.symm hk)] at q2
      exact E1.sep j k s t a h e1' e2' m1 m2 q1 q2
theorem ER.unwipe {vs : List Nat} {ρ : En} (E : ER K F G H (L2.wipe σ vs) ρ) : ER K F G H σ ρ := by
  refine ⟨by rw [E.len, wipe_length], E.exB, E.exG, E.exL, E.nbL, fun j s e => ?_, fun j k s t a h e1 e2 m1 m2 q1 q2 => ?_⟩
  · obtain ⟨v, q, rr⟩ := E.slot j s e
    exact ⟨v, (wipe_some q).1, rr⟩
  · obtain ⟨v, q, rr⟩ := E.slot j s e1
    obtain ⟨v', q', rr'⟩ := E.slot k t e2
    have z1 := (wipe_some q).1
    have z2 := (wipe_some q').1
    rw [q1] at z1
    rw [q2] at z2
    cases z1
    cases z2
    exact E.sep j k s t a h e1 e2 m1 m2 q q'
def lcGo (g : RG) (tt : RT) (te : RE) (vs : List Nat) : List D → List D → En → Option (List D × En)
  | [], acc, ρ => some (acc, ρ)
  | d :: ds, acc, ρ => (g d ρ).bind fun ρ1 => (tt ρ1).bind fun p => if p.1 = true then (te p.2).bind fun q => lcGo g tt te vs ds (acc ++ [q.1.d]) (wipeE vs q.2) else lcGo g tt te vs ds acc (wipeE vs p.2)
def rdLc (it : RA) (g : RG) (tt : RT) (te : RE) (vs : List Nat) : RE := fun ρ => (it ρ).bind fun p => if p.1.length ≤ sizeLine then (lcGo g tt te vs p.1 [] (wipeE vs p.2)).map fun q => (.own q.1, q.2) else none
theorem ek_lc (vs : List Nat) (hi : IK K F wi rI) (hg : ∀ F, GK K F g rG is) (hs : ∀ i ∈ is, i ∈ vs) (ht : ∀ F, TK K F tt u) (he : ∀ F, EK K F te t) : EK K F (tLc wi g tt te vs) (rdLc rI rG u t vs) := by
  intro G H σ ρ ρ' s E hr Q q
  unfold rdLc at hr
  cases e1 : rI ρ with
  | none => rw [e1] at hr; cases hr
  | some p =>
    rw [e1] at hr
    simp only [Option.bind_some] at hr
    split at hr
    · rename_i hz
      cases e2 : lcGo rG u t vs p.1 [] (wipeE vs p.2) with
      | none => rw [e2] at hr; cases hr
      | some fin =>
        rw [e2] at hr
        cases hr
        refine hi G H σ ρ p.2 p.1 E e1 _ fun J G1 H1 x1 E1 io Dd hD => ?_
        obtain ⟨nD, gD⟩ := E1.fresh hD
        have sp1 : ∀ (i : Nat) (s : S), (wipeE vs p.2)[i]? = some (some s) → s.mu = true → (L2.wipe σ vs)[i]? ≠ some (some (.ref Dd)) := fun i s e m q' => by
          obtain ⟨_, vs', h1, _⟩ := (ER.wipe vs E1).known e m q'
          rw [hD] at h1; cases h1
        refine ⟨fun i m H => m = p.1.length - i ∧ i ≤ p.1.length ∧ ∃ G2 ρ2 acc va, Ext F G1 G2 ∧ ER K F G2 H (L2.wipe σ vs) ρ2 ∧ H Dd = some (.lst va) ∧ RPs K G2 va acc ∧ acc.length ≤ i ∧ G2 Dd = none ∧
            (∀ (i : Nat) (s : S), ρ2[i]? = some (some s) → s.mu = true → (L2.wipe σ vs)[i]? ≠ some (some (.ref Dd))) ∧ lcGo rG u t vs (p.1.drop i) acc ρ2 = some fin,
          ⟨_, rfl, Nat.zero_le _, G1, _, [], [], Ext.refl F G1, (ER.wipe vs E1).alloc hD, upd_same, .nil, Nat.le_refl _, gD, sp1, by rw [List.drop_zero]; exact e2⟩, ?_⟩
        rintro i m H2 ⟨rfl, hle, G2, ρ2, acc, va, x2, E2, hDd, ra, hacc, gD2, sp2, h2⟩
        have io2 := io.mono x2.ex
        by_cases hlt : i < p.1.length
        · right
          refine ⟨io2.go i H2 E2.exG hlt, fun H' => ∃ G2 ρ2 acc va, Ext F G1 G2 ∧ ER K F G2 H' (L2.wipe σ vs) ρ2 ∧ H' Dd = some (.lst va) ∧ RPs K G2 va acc ∧ acc.length ≤ i + 1 ∧ G2 Dd = none ∧
            (∀ (i : Nat) (s : S), ρ2[i]? = some (some s) → s.mu = true → (L2.wipe σ vs)[i]? ≠ some (some (.ref Dd))) ∧ lcGo rG u t vs (p.1.drop (i + 1)) acc ρ2 = some fin,
            fun H' h => ⟨_, by omega, rfl, hlt, h⟩, fun x H' hy => ?_⟩
          obtain ⟨e, d, hd1, rd⟩ := io2.yld i H2 x H' E2.exG hlt hy
          subst e
          have hd : p.1.drop i = p.1[i] :: p.1.drop (i + 1) := List.drop_eq_getElem_cons hlt
          have hdd : p.1[i] = d := by
            rw [List.getElem?_eq_getElem hlt] at hd1
            exact Option.some.inj hd1
          rw [hd, hdd] at h2
          unfold lcGo at h2
          cases e3 : rG d ρ2 with
          | none => rw [e3] at h2; cases h2
          | some ρ3 =>
            rw [e3] at h2
            simp only [Option.bind_some] at h2
            cases e4 : u ρ3 with
            | none => rw [e4] at h2; cases h2
            | some p4 =>
              rw [e4] at h2
              obtain ⟨bo, ρ4⟩ := p4
              simp only [Option.bind_some] at h2
              -- the new list is guarded through the turn
              have Eg := E2.guard hDd nD gD2 sp2
              refine hg _ G2 H' _ ρ2 ρ3 x d Eg rd e3 _ fun G3 H3 σ3 x3 E3 w3 => ⟨?_, ?_⟩
              · have ww : L2.wipe (L2.wipe σ vs) vs = L2.wipe σ vs := by
                  apply List.ext_getElem?
                  intro j
                  by_cases hj : j ∈ vs
                  · have a1 : ∀ (us : List Nat) (τ : L2.St), j ∈ us → j < τ.length → (L2.wipe τ us)[j]? = some none := by
                      intro us
                      induction us with
                      | nil => intro τ h _; cases h
                      | cons k us ih =>
                        intro τ h hl
                        show ((L2.wipe τ us).set k none)[j]? = some none
                        by_cases hk : j = k
                        · subst hk
                          rw [List.getElem?_set_self (by rw [wipe_length]; exact hl)]
                        · rw [List.getElem?_set_ne (Ne.symm hk)]
                          rcases List.mem_cons.mp h with h | h
                          · exact absurd h hk
                          · exact ih τ h hl
                    by_cases hl : j < σ.length
                    · rw [a1 vs _ hj (by rw [wipe_length]; exact hl), a1 vs _ hj hl]
                    · rw [List.getElem?_eq_none (by rw [wipe_length, wipe_length]; omega), List.getElem?_eq_none (by rw [wipe_length]; omega)]
                  · rw [wipe_out hj]
                exact (w3 vs hs).trans ww
              · refine ht _ G3 H3 σ3 ρ3 ρ4 bo E3 e4 _ fun G4 H4 x4 E4 => ?_
                have x24 := x3.trans x4
                have w3' : L2.wipe σ3 vs = L2.wipe (L2.wipe σ vs) vs := w3 vs hs
                have ww : L2.wipe (L2.wipe σ vs) vs = L2.wipe σ vs := by
                  apply List.ext_getElem?
                  intro j
                  by_cases hj : j ∈ vs
                  · have a1 : ∀ (us : List Nat) (τ : L2.St), j ∈ us → j < τ.length → (L2.wipe τ us)[j]? = some none := by
                      intro us
                      induction us with
                      | nil => intro τ h _; cases h
                      | cons k us ih =>
                        intro τ h hl
                        show ((L2.wipe τ us).set k none)[j]? = some none
                        by_cases hk : j = k
                        · subst hk
                          rw [List.getElem?_set_self (by rw [wipe_length]; exact hl)]
                        · rw [List.getElem?_set_ne (Ne.symm hk)]
                          rcases List.mem_cons.mp h with h | h
                          · exact absurd h hk
                          · exact ih τ h hl
                    by_cases hl : j < σ.length
                    · rw [a1 vs _ hj (by rw [wipe_length]; exact hl), a1 vs _ hj hl]
                    · rw [List.getElem?_eq_none (by rw [wipe_length, wipe_length]; omega), List.getElem?_eq_none (by rw [wipe_length]; omega)]
                  · rw [wipe_out hj]
                have w3'' : L2.wipe σ3 vs = L2.wipe σ vs := w3'.trans ww
                cases bo with
                | false =>
                  rw [if_neg Bool.false_ne_true] at h2 ⊢
                  have E5 := ER.wipe vs E4
                  rw [w3''] at E5
                  obtain ⟨E6, hD6, sp6⟩ := ER.unguard nD E5
                  obtain ⟨x6, g6⟩ := x24.unguard nD gD2
                  exact ⟨G4, _, acc, va, x2.trans x6, E6, hD6, dps_mono x6.ex _ _ ra, Nat.le_succ_of_le hacc, g6, sp6, h2⟩
                | true =>
                  rw [if_pos rfl] at h2 ⊢
                  cases e5 : t ρ4 with
                  | none => rw [e5] at h2; cases h2
                  | some p5 =>
                    rw [e5] at h2
                    simp only [Option.bind_some] at h2
                    refine (he _).fz E4 (ρ' := p5.2) (s := p5.1) e5 fun y G5 H5 x5 E5 r5 => ?_
                    have E5' := ER.wipe vs E5
                    rw [w3''] at E5'
                    obtain ⟨E6, hD6, sp6⟩ := ER.unguard nD E5'
                    obtain ⟨x6, g6⟩ := (x24.trans x5).unguard nD gD2
                    have ra6 := dps_mono x6.ex _ _ ra
                    refine ⟨va, hD6, by rw [dps_len ra]; omega, G5, _, acc ++ [p5.1.d], va ++ [y], x2.trans x6, ?_, upd_same, dps_app ra6 (dps_one r5), by simp; omega, g6, sp6, h2⟩
                    -- the new list grows: nobody's own
                    refine ⟨E6.len, fun b o z => ?_, fun b o z => ?_, fun b z => ?_, E6.nbL, fun j s e => ?_, E6.sep⟩
                    · rw [upd_ne (fun w => by rw [w, nD.1] at z; cases z)]
                      exact E6.exB b o z
                    · rw [upd_ne (fun w => by rw [w, g6] at z; cases z)]
                      exact E6.exG b o z
                    · rw [upd_ne (fun w => nD.2 (by rw [← w]; exact z))]
                      exact E6.exL b z
                    · obtain ⟨v, qv, rv⟩ := E6.slot j s e
                      refine ⟨v, qv, ?_⟩
                      cases s with
                      | val d => exact rv
                      | fro d => exact rv
                      | own ds =>
                        obtain ⟨a, vs', rfl, w, g, hh, k⟩ := rv
                        exact ⟨a, vs', rfl, w, g, by rw [upd_ne (fun z => sp6 j _ e rfl (by rw [← z]; exact qv))]; exact hh, k⟩
                      | bor ds =>
                        obtain ⟨vs', rfl, w, g, hh, k⟩ := rv
                        exact ⟨vs', rfl, w, g, by rw [upd_ne (fun z => sp6 j _ e rfl (by rw [← z]; exact qv))]; exact hh, k⟩
        · left
          refine ⟨io2.stop i H2 E2.exG (by omega), ?_⟩
          rw [List.drop_of_length_le (by omega)] at h2
          have h2' : (acc, ρ2) = fin := Option.some.inj h2
          subst h2'
          refine q _ G2 H2 (x1.trans x2) E2.unwipe ⟨Dd, va, rfl, nD, gD2, hDd, ra, fun j s e m q' => ?_⟩
          obtain ⟨v, qv, rv⟩ := E2.slot j s e
          have z1 := (wipe_some qv).1
          rw [q'] at z1
          cases z1
          exact sp2 j s e m qv
    · cases hr
def rtYes : RT := fun ρ => some (true, ρ)
theorem tk_yes : TK K F tYes rtYes := by
  intro G H σ ρ ρ' b E ht Q q
  cases ht
  exact q G H (Ext.refl F G) E
/-- the facts of a comprehension, shared by its use as a value and in an assignment to a name -/
structure DLc (K : PySem.W.Frag) (X : Cx) (e tg iter : Expr) (ifs : List Expr) (scope : Scope) (own : List (Str × Nat)) (wi : TI) (g : TG) (tt : TT) (te : TE) (rI : RA) (rG : RG) (u : RT) (t : RE) : Prop where
  hi : PI X tg iter wi
  ok : BlkOk X.N X.env.scope scope own
  hg : ∀ (s : Shared) (H : Hp) (C : Addr) (cl : List (Str × Addr)) (fp : List Addr), PG (X.blk s H scope (compEnvC scope cl C X.env) fp) tg g
  ht : ∀ (s : Shared) (H : Hp) (C : Addr) (cl : List (Str × Addr)) (fp : List Addr), PTs (X.blk s H scope (compEnvC scope cl C X.env) fp) ifs tt
  he : ∀ (s : Shared) (H : Hp) (C : Addr) (cl : List (Str × Addr)) (fp : List Addr), PE (X.blk s H scope (compEnvC scope cl C X.env) fp) e te
  ek : ∀ F, EK K F (tLc wi g tt te (own.map (·.2))) (rdLc rI rG u t (own.map (·.2)))
theorem d_lc0 {scope : Scope} {own : List (Str × Nat)} (hi : DI K X tg iter wi rI)
    (hg : ∀ (s : Shared) (H : Hp) (C : Addr) (cl : List (Str × Addr)) (fp : List Addr), DG K (X.blk s H scope (compEnvC scope cl C X.env) fp) tg g rG is)
    (he : ∀ (s : Shared) (H : Hp) (C : Addr) (cl : List (Str × Addr)) (fp : List Addr), DE K (X.blk s H scope (compEnvC scope cl C X.env) fp) e te t) (ok : blkC X.N X.env.scope scope own = true := by kernel_rfl) (hs : ∀ i ∈ is, i ∈ own.map (·.2) := by decide) :
    DLc K X e tg iter [] scope own wi g tYes te rI rG rtYes t :=
  ⟨hi.pi, blkOk_by ok, fun s H C cl fp => (hg s H C cl fp).pg, fun _ _ _ _ _ => pts_nil, fun s H C cl fp => (he s H C cl fp).pe,
   fun F => ek_lc _ (hi.ik F) (fun F => (hg X.s_0 X.H_0 0 [] []).gk F) hs (fun _ => tk_yes) fun F => (he X.s_0 X.H_0 0 [] []).ek F⟩
theorem d_lc1 {c : Expr} {scope : Scope} {own : List (Str × Nat)} (hi : DI K X tg iter wi rI)
    (hg : ∀ (s : Shared) (H : Hp) (C : Addr) (cl : List (Str × Addr)) (fp : List Addr), DG K (X.blk s H scope (compEnvC scope cl C X.env) fp) tg g rG is)
    (ht : ∀ (s : Shared) (H : Hp) (C : Addr) (cl : List (Str × Addr)) (fp : List Addr), DT K (X.blk s H scope (compEnvC scope cl C X.env) fp) c tt u)
    (he : ∀ (s : Shared) (H : Hp) (C : Addr) (cl : List (Str × Addr)) (fp : List Addr), DE K (X.blk s H scope (compEnvC scope cl C X.env) fp) e te t) (ok : blkC X.N X.env.scope scope own = true := by kernel_rfl) (hs : ∀ i ∈ is, i ∈ own.map (·.2) := by decide) :
    DLc K X e tg iter [c] scope own wi g tt te rI rG u t :=
  ⟨hi.pi, blkOk_by ok, fun s H C cl fp => (hg s H C cl fp).pg, fun s H C cl fp => pts_one (ht s H C cl fp).pt, fun s H C cl fp => (he s H C cl fp).pe,
   fun F => ek_lc _ (hi.ik F) (fun F => (hg X.s_0 X.H_0 0 [] []).gk F) hs (fun F => (ht X.s_0 X.H_0 0 [] []).tk F) fun F => (he X.s_0 X.H_0 0 [] []).ek F⟩
theorem d_lcE {ifs : List Expr} {scope : Scope} {own : List (Str × Nat)} (h : DLc K X e tg iter ifs scope own wi g tt te rI rG u t) (hN : X.N.Nodup) (hc : X.calm = true := by rfl) (hf : ∀ x, foldedSetIterable iter X.env x = pure x := by intro _; rfl) :
    DE K X (.ListComp e [⟨tg, iter, ifs, 0⟩] scope pos) (tLc wi g tt te (own.map (·.2))) (rdLc rI rG u t (own.map (·.2))) :=
  ⟨pe_lc hc hN h.hi h.ok h.hg h.ht h.he hf, h.ek⟩
theorem d_setLc (i : Nat) {y : Str} {py spos : Pos} {ifs : List Expr} {scope : Scope} {own : List (Str × Nat)} (h : DLc K X e tg iter ifs scope own wi g tt te rI rG u t) (hN : X.N.Nodup)
    (hsw : swapsWith (.ListComp e [⟨tg, iter, ifs, 0⟩] scope pos) (some (.Name y py)) spos.line X.env = pure true)
    (hy : X.N[i]? = some y := by rfl) (hyl : X.env.scope.names.lookup y = some .local := by rfl) (hc : X.calm = true := by rfl) (hf : ∀ x, foldedSetIterable iter X.env x = pure x := by intro _; rfl) :
    DS K X (.Assign [.Name y py] (.ListComp e [⟨tg, iter, ifs, 0⟩] scope pos) spos) (tAsg (tLc wi g tt te (own.map (·.2))) (gName i)) (rsSet i (rdLc rI rG u t (own.map (·.2)))) :=
  ⟨ps_setLc hc hN hy hyl hsw h.hi h.ok h.hg h.ht h.he hf, fun F => sk_set i (h.ek F)⟩
end
end DL

set_option Elab.async false
set_option linter.all false
set_option maxRecDepth 100000
set_option maxHeartbeats 4000000
namespace DL
open PySem L2 PyProof.Rows PySem.Spec
/-! ### defs -/
abbrev FnD := List S → Option (S × En)
/-- how an argument lies: at v, for a caller's G, H, the borrowed addresses being L -/
def AR (K : PySem.W.Frag) (G H : Hp) (L : Addr → Prop) (v : V) : S → Prop
  | .val d => RP K G v d
  | .bor ds => ∃ a vs, v = .ref a ∧ L a ∧ G a = none ∧ H a = some (.lst vs) ∧ RPs K G vs ds
  | .fro ds => ∃ a vs, v = .ref a ∧ SqL K G a vs ∧ RPs K G vs ds
  | .own _ => False
def RRn (K : PySem.W.Frag) (G H H0 : Hp) (v : V) : S → Prop
  | .val d => RP K G v d
  | .own ds => ∃ a vs, v = .ref a ∧ H0 a = none ∧ G a = none ∧ H a = some (.lst vs) ∧ RPs K G vs ds
  | _ => False
def spD (K : PySem.W.Frag) (n : Nat) (Fn : FnD) : Sp := fun vs H Q _ => ∃ (G : Hp) (L : Addr → Prop) (ss : List S) (r : S) (fin : En),
  Fn ss = some (r, fin) ∧ vs.length = n ∧ ss.length = n ∧ Same G H ∧ (∀ a, L a → ∃ o, H a = some o) ∧
  (∀ (i : Nat) (s : S), ss[i]? = some s → ∃ v, vs[i]? = some v ∧ AR K G H L v s) ∧
  (∀ (i j : Nat) (s t : S) (a : Addr), i ≠ j → ss[i]? = some s → ss[j]? = some t → s.mu = true → t.mu = true → vs[i]? = some (.ref a) → vs[j]? = some (.ref a) → False) ∧
  ∀ v G' H', Same G G' → (∀ a, G a = none → G' a ≠ none → H a = none) → Same G' H' → (∀ a o, ¬ L a → H a = some o → H' a = some o) → (∀ a, L a → ∃ o, H' a = some o) →
    (∀ (i : Nat) (ds : List D) (a : Addr), fin[i]? = some (some (.bor ds)) → vs[i]? = some (.ref a) → L a → ∃ vs', H' a = some (.lst vs') ∧ RPs K G' vs' ds) → RRn K G' H' H v r → Q v H'
/-- what a def hands back of its arguments: the borrowed lists -/
def bO : Option S → Option S
  | some (.bor ds) => some (.bor ds)
  | _ => none
def finB (n : Nat) (ρ : En) : En := (ρ.take n).map bO
theorem finB_bor {n : Nat} {ρ : En} {i : Nat} {ds : List D} (h : (finB n ρ)[i]? = some (some (.bor ds))) : ρ[i]? = some (some (.bor ds)) := by
  unfold finB at h
  rw [List.getElem?_map] at h
  cases e : (ρ.take n)[i]? with
  | none => rw [e] at h; cases h
  | some o =>
    rw [e] at h
    have h' : bO o = some (.bor ds) := by simpa using h
    rw [List.getElem?_take] at e
    split at e
    · rw [e]
      cases o with
      | none => cases h'
      | some s => cases s <;> first | (cases h'; done) | (cases h'; rfl)
    · cases e
/-- a def's reading as a function of its arguments: m slots -/
def runF (m : Nat) (b : RS) : FnD := fun ss => match b (ss.map some ++ List.replicate (m - ss.length) none) with
  | some (.rt s ρ) => some (s, finB ss.length ρ)
  | some (.nx ρ) => some (.val .none, finB ss.length ρ)
  | _ => none
open Classical in
/-- the frame of a def that is called -/
noncomputable def frOf (H : Hp) (L : Addr → Prop) (vs : List V) : Fr := ⟨fun b => if L b then none else H b, L, fun i => match vs[i]? with
  | some (.ref a) => a
  | _ => 0⟩
theorem start_get {N : List Str} {vs : List V} {i : Nat} {v : V} (h : vs[i]? = some v) : (L2.start N vs)[i]? = some (some v) := by
  unfold L2.start
  have hi : i < vs.length := (List.getElem?_eq_some_iff.mp h).1
  rw [List.getElem?_append_left (by simpa using hi), List.getElem?_map, h]
  rfl
theorem start_some {N : List Str} {vs : List V} {i : Nat} {v : V} (h : (L2.start N vs)[i]? = some (some v)) : vs[i]? = some v := by
  unfold L2.start at h
  by_cases hi : i < vs.length
  · rw [List.getElem?_append_left (by simpa using hi), List.getElem?_map, List.getElem?_eq_getElem hi] at h
    rw [List.getElem?_eq_getElem hi]
    simpa using h
  · rw [List.getElem?_append_right (by simpa using hi)] at h
    have := (List.getElem?_eq_some_iff.mp h).2
    simp at this
theorem rep_some {m : Nat} {ss : List S} {i : Nat} {s : S} (h : (ss.map some ++ List.replicate m none)[i]? = some (some s)) : ss[i]? = some s := by
  by_cases hi : i < ss.length
  · rw [List.getElem?_append_left (by simpa using hi), List.getElem?_map, List.getElem?_eq_getElem hi] at h
    rw [List.getElem?_eq_getElem hi]
    simpa using h
  · rw [List.getElem?_append_right (by simpa using hi)] at h
    have := (List.getElem?_eq_some_iff.mp h).2
    simp at this
section
variable {P : Program} {w : World} {K : PySem.W.Frag} {mg : Str → Option Value} {base : Heap}
open Classical in
theorem body_ok {N : List Str} {n : Nat} {ts : TS} {b : RS} {vs : List V} {H : Hp} {Q : VK} {E : XK} (hN : n ≤ N.length) (hb : ∀ F, SK K F ts b) (h : spD K n (runF N.length b) vs H Q E) : ts { nx := fun _ H' => Q .non H', rt := Q } (L2.start N vs) H := by
  obtain ⟨G, L, ss, r, fin, hf, hv, hs, sGH, hL, har, hsep, k⟩ := h
  have E0 : ER K (frOf H L vs) G H (L2.start N vs) (ss.map some ++ List.replicate (N.length - ss.length) none) := by
    refine ⟨by simp [L2.start, hv, hs], fun a o e => ?_, sGH, hL, fun a ha => ?_, fun i s e => ?_, fun i j s t a hij e1 e2 m1 m2 q1 q2 => ?_⟩
    · have e' : (if L a then none else H a) = some o := e
      split at e'
      · cases e'
      · exact e'
    · show (if L a then none else H a) = none
      have ha' : L a := ha
      rw [if_pos ha']
    · obtain ⟨v, q, ar⟩ := har i s (rep_some e)
      refine ⟨v, start_get q, ?_⟩
      cases s with
      | val d => exact ar
      | own ds => exact ar.elim
      | fro ds => exact ar
      | bor ds =>
        obtain ⟨a, vs', rfl, la, g, hh, kk⟩ := ar
        have eb : (frOf H L vs).ba i = a := by
          show (match vs[i]? with
            | some (.ref a) => a
            | _ => 0) = a
          rw [q]
        exact ⟨vs', by rw [eb], by rw [eb]; exact la, by rw [eb]; exact g, by rw [eb]; exact hh, kk⟩
    · exact hsep i j s t a hij (rep_some e1) (rep_some e2) m1 m2 (start_some q1) (start_some q2)
  have fin_ : ∀ (v : V) (G' H' : Hp) (σ' : L2.St) (ρ' : En) (s : S), (s, finB ss.length ρ') = (r, fin) → Ext (frOf H L vs) G G' → ER K (frOf H L vs) G' H' σ' ρ' → RR K (frOf H L vs) G' H' σ' ρ' v s → Q v H' := fun v G' H' σ' ρ' s e x E' rr => by
    cases e
    refine k v G' H' x.ex (fun a h1 h2 => ?_) E'.exG (fun a o nl e => ?_) E'.exL (fun i ds a e1 e2 la => ?_) ?_
    · have nn := x.new a h1 h2
      have e' : (if L a then none else H a) = none := nn.1
      have n2 : ¬ L a := nn.2
      rw [if_neg n2] at e'
      exact e'
    · refine E'.exB a o ?_
      show (if L a then none else H a) = some o
      rw [if_neg nl]
      exact e
    · obtain ⟨v, qv, vs', rfl, _, _, hh, kk⟩ := E'.slot i _ (finB_bor e1)
      have eb : (frOf H L vs).ba i = a := by
        show (match vs[i]? with
          | some (.ref a) => a
          | _ => 0) = a
        rw [e2]
      rw [eb] at hh
      exact ⟨vs', hh, kk⟩
    · cases r with
      | val d => exact rr
      | bor ds => exact rr.elim
      | fro ds => exact rr.elim
      | own ds =>
        obtain ⟨a, vs', rfl, nn, g, hh, kk, _⟩ := rr
        refine ⟨a, vs', rfl, ?_, g, hh, kk⟩
        have e' : (if L a then none else H a) = none := nn.1
        have n2 : ¬ L a := nn.2
        rw [if_neg n2] at e'
        exact e'
  unfold runF at hf
  split at hf
  · rename_i s ρ eo
    cases hf
    exact hb _ G H _ _ _ _ E0 eo fun v G' H' σ' x E' rr => fin_ v G' H' σ' _ _ rfl x E' rr
  · rename_i ρ eo
    cases hf
    exact hb _ G H _ _ _ _ E0 eo fun G' H' σ' x E' => fin_ .non G' H' σ' _ _ rfl x E' .non
  · cases hf
/-- a def as others call it -/
structure DFn (P : Program) (w : World) (K : PySem.W.Frag) (mg : Str → Option Value) (base : Heap) (x : Str) (k n : Nat) (Fn : FnD) : Prop where
  ex : ∃ (f : Addr) (fd : FuncData) (ps : List Str), FnOk P w K mg base CX0 k f fd ps (spD K n Fn) ∧ mg x = some (.ref f) ∧ PySem.W.keepIn K (.ref f) = true ∧ Binds K fd ps []
/-- THE RULE for a def -/
theorem fnok_ok {x : Str} {st : Stmt} {f : Addr} {fd : FuncData} {N ps : List Str} {k n : Nat} {b : RS} (F : Fun K x x st f fd) (S : FnScope N ps (defScope st)) (hn : ps.length = n) (hN : n ≤ N.length)
    (hbody : ∀ (cdv : Value) (A : Around) (outer : List Env) (s : Shared) (H : Hp) (E : XK), Room k (A.deeper (envOfC x (defScope st) s.heap.objs.size f cdv)) →
      ∃ ts, DSs K (cxOf CX0 P w K mg base N x (defScope st) f cdv A outer s H E).nox (defBody st) ts b) : FnOk P w K mg base CX0 (k + 1) f fd ps (spD K n (runF N.length b)) := by
  refine F.ok S (fun vs H Q E h => ?_) (fun cdv A outer s H vs Q E hr h => ?_)
  · obtain ⟨_, _, _, _, _, _, hv, _⟩ := h
    rw [hv, hn]
  · obtain ⟨ts, hd⟩ := hbody cdv A outer s H E hr
    exact ⟨ts, hd.ps, body_ok hN hd.sk h⟩
theorem dfn_ok {x : Str} {st : Stmt} {f : Addr} {fd : FuncData} {N ps : List Str} {k n : Nat} {b : RS} (F : Fun K x x st f fd) (hm : mg x = some (.ref f)) (hb : Binds K fd ps []) (S : FnScope N ps (defScope st)) (hn : ps.length = n) (hN : n ≤ N.length)
    (hbody : ∀ (cdv : Value) (A : Around) (outer : List Env) (s : Shared) (H : Hp) (E : XK), Room k (A.deeper (envOfC x (defScope st) s.heap.objs.size f cdv)) →
      ∃ ts, DSs K (cxOf CX0 P w K mg base N x (defScope st) f cdv A outer s H E).nox (defBody st) ts b) : DFn P w K mg base x (k + 1) n (runF N.length b) :=
  ⟨f, fd, ps, fnok_ok F S hn hN hbody, hm, F.kp, hb⟩
theorem DFn.mono {x : Str} {j k n : Nat} {Fn : FnD} (h : DFn P w K mg base x j n Fn) (hjk : j ≤ k) : DFn P w K mg base x k n Fn := by
  obtain ⟨f, fd, ps, F, a, b, c⟩ := h.ex
  exact ⟨f, fd, ps, F.mono hjk, a, b, c⟩
end

/-! ### calls -/
inductive Ar where
  | d (d : D) | b (i : Nat)
abbrev RCa := En → Option (List Ar × En)
def ArV (K : PySem.W.Frag) (G : Hp) (σ : L2.St) : List V → List Ar → Prop
  | [], [] => True
  | v :: vs, .d d :: as => RP K G v d ∧ ArV K G σ vs as
  | v :: vs, .b i :: as => σ[i]? = some (some v) ∧ ArV K G σ vs as
  | _, _ => False
theorem ArV.mono {K : PySem.W.Frag} {G G' : Hp} {σ : L2.St} (x : Same G G') : ∀ {vs : List V} {as : List Ar}, ArV K G σ vs as → ArV K G' σ vs as
  | [], [], _ => trivial
  | [], _ :: _, h => h.elim
  | _ :: _, [], h => h.elim
  | v :: vs, .d d :: as, h => ⟨dp_mono x _ _ h.1, ArV.mono x h.2⟩
  | v :: vs, .b i :: as, h => ⟨h.1, ArV.mono x h.2⟩
theorem ArV.len {K : PySem.W.Frag} {G : Hp} {σ : L2.St} : ∀ {vs : List V} {as : List Ar}, ArV K G σ vs as → vs.length = as.length
  | [], [], _ => rfl
  | [], _ :: _, h => h.elim
  | _ :: _, [], h => h.elim
  | v :: vs, .d d :: as, h => by simp [ArV.len h.2]
  | v :: vs, .b i :: as, h => by simp [ArV.len h.2]
theorem ArV.getD {K : PySem.W.Frag} {G : Hp} {σ : L2.St} : ∀ {vs : List V} {as : List Ar} {k : Nat} {d : D}, ArV K G σ vs as → as[k]? = some (.d d) → ∃ v, vs[k]? = some v ∧ RP K G v d
  | [], [], _, _, _, e => by simp at e
  | [], _ :: _, _, _, h, _ => h.elim
  | _ :: _, [], _, _, h, _ => h.elim
  | v :: vs, a :: as, 0, d, h, e => by
    have e : a = .d d := by simpa using e
    subst e
    exact ⟨v, rfl, h.1⟩
  | v :: vs, a :: as, k + 1, d, h, e => by
    have h2 : ArV K G σ vs as := by cases a <;> exact h.2
    obtain ⟨u, q, r⟩ := ArV.getD (k := k) (d := d) h2 (by simpa using e)
    exact ⟨u, by simpa using q, r⟩
theorem ArV.getB {K : PySem.W.Frag} {G : Hp} {σ : L2.St} : ∀ {vs : List V} {as : List Ar} {k : Nat} {i : Nat}, ArV K G σ vs as → as[k]? = some (.b i) → ∃ v, vs[k]? = some v ∧ σ[i]? = some (some v)
  | [], [], _, _, _, e => by simp at e
  | [], _ :: _, _, _, h, _ => h.elim
  | _ :: _, [], _, _, h, _ => h.elim
  | v :: vs, a :: as, 0, i, h, e => by
    have e : a = .b i := by simpa using e
    subst e
    exact ⟨v, rfl, h.1⟩
  | v :: vs, a :: as, k + 1, i, h, e => by
    have h2 : ArV K G σ vs as := by cases a <;> exact h.2
    obtain ⟨u, q, r⟩ := ArV.getB (k := k) (i := i) h2 (by simpa using e)
    exact ⟨u, by simpa using q, r⟩
def CK (K : PySem.W.Frag) (F : Fr) (ta : TA) (t : RCa) : Prop :=
  ∀ (G H : Hp) (σ : L2.St) (ρ ρ' : En) (as : List Ar), ER K F G H σ ρ → t ρ = some (as, ρ') → ∀ Q : List V → Hp → Prop, (∀ vs G' H', Ext F G G' → ER K F G' H' σ ρ' → ArV K G' σ vs as → Q vs H') → ta σ H Q
structure DC (K : PySem.W.Frag) (X : Cx) (es : List Expr) (ta : TA) (t : RCa) : Prop where
  pa : PA X es ta
  ck : ∀ F, CK K F ta t
  len : ∀ ρ as ρ', t ρ = some (as, ρ') → as.length = es.length
def rcNil : RCa := fun ρ => some ([], ρ)
def rcCons (t : RE) (u : RCa) : RCa := fun ρ => (t ρ).bind fun p => (u p.2).map fun q => (.d p.1.d :: q.1, q.2)
/-- a name's list, handed by itself -/
def rcB (i : Nat) (u : RCa) : RCa := fun ρ => match ρ[i]? with
  | some (some _) => (u ρ).map fun q => (.b i :: q.1, q.2)
  | _ => none
section
variable {K : PySem.W.Frag} {X : Cx} {F : Fr} {G H : Hp} {σ : L2.St} {ρ ρ' : En} {s : S} {te : TE} {t : RE} {e : Expr} {es : List Expr} {tas : TA} {rcs : RCa} {pos p : Pos}
/-- how many arguments -/
def HasLenC (t : RCa) (n : Nat) : Prop := ∀ ρ as ρ', t ρ = some (as, ρ') → as.length = n
theorem hc_nil : HasLenC rcNil 0 := fun ρ ds ρ' h => by cases h; rfl
theorem hc_cons {t : RE} {u : RCa} {n : Nat} (h : HasLenC u n) : HasLenC (rcCons t u) (n + 1) := fun ρ as ρ' e => by
  unfold rcCons at e
  cases e1 : t ρ with
  | none => rw [e1] at e; cases e
  | some p =>
    rw [e1] at e
    simp only [Option.bind_some] at e
    cases e2 : u p.2 with
    | none => rw [e2] at e; cases e
    | some q =>
      rw [e2] at e
      cases e
      simp [h _ _ _ e2]
theorem hc_b {i : Nat} {u : RCa} {n : Nat} (h : HasLenC u n) : HasLenC (rcB i u) (n + 1) := fun ρ as ρ' e => by
  unfold rcB at e
  split at e
  · cases e2 : u ρ with
    | none => rw [e2] at e; cases e
    | some q =>
      rw [e2] at e
      cases e
      simp [h _ _ _ e2]
  · cases e
theorem dc_nil : DC K X [] tNil rcNil := ⟨pa_nil, fun F G H σ ρ ρ' as E ht Q q => by
  cases ht
  exact q [] G H (Ext.refl F G) E trivial, hc_nil⟩
theorem ck_cons (ha : EK K F te t) (hr : CK K F tas rcs) : CK K F (tCons te tas) (rcCons t rcs) := by
  intro G H σ ρ ρ' as E ht Q q
  unfold rcCons at ht
  cases e1 : t ρ with
  | none => rw [e1] at ht; cases ht
  | some p =>
    rw [e1] at ht
    simp only [Option.bind_some] at ht
    cases e2 : rcs p.2 with
    | none => rw [e2] at ht; cases ht
    | some q2 =>
      rw [e2] at ht
      cases ht
      refine ha.fz E (ρ' := p.2) (s := p.1) e1 fun x G1 H1 x1 E1 p1 => hr G1 H1 σ p.2 q2.2 q2.1 E1 e2 _ fun vs G2 H2 x2 E2 p2 => ?_
      exact q _ G2 H2 (x1.trans x2) E2 ⟨dp_mono x2.ex _ _ p1, p2⟩
theorem dc_cons (ha : DE K X e te t) (hr : DC K X es tas rcs) (hs : starEach (e :: es) X.env = (false, eval e X.env) :: starEach es X.env := by rfl) : DC K X (e :: es) (tCons te tas) (rcCons t rcs) :=
  ⟨pa_cons ha.pe hr.pa hs, fun F => ck_cons (ha.ek F) (hr.ck F), hc_cons hr.len⟩
theorem ck_b (i : Nat) (hr : CK K F tas rcs) : CK K F (tCons (tVar i) tas) (rcB i rcs) := by
  intro G H σ ρ ρ' as E ht Q q
  unfold rcB at ht
  split at ht
  · rename_i s e
    cases e2 : rcs ρ with
    | none => rw [e2] at ht; cases ht
    | some q2 =>
      rw [e2] at ht
      cases ht
      obtain ⟨v, qv, _⟩ := E.slot i _ e
      exact ⟨v, qv, hr G H σ ρ q2.2 q2.1 E e2 _ fun vs G2 H2 x2 E2 p2 => q _ G2 H2 x2 E2 ⟨qv, p2⟩⟩
  · cases ht
theorem dc_b (i : Nat) {x : Str} (hr : DC K X es tas rcs) (hN : X.N[i]? = some x := by rfl) (hv : Vis X.env.scope x := by first | exact Or.inl rfl | exact Or.inr (Or.inl rfl) | exact Or.inr (Or.inr rfl)) (hd : (x == ("__debug__" : Str)) = false := by decide)
    (hcd : (x == ("__classdict__" : Str)) = false := by decide) (hs : starEach (.Name x p :: es) X.env = (false, eval (.Name x p) X.env) :: starEach es X.env := by rfl) : DC K X (.Name x p :: es) (tCons (tVar i) tas) (rcB i rcs) :=
  ⟨pa_cons (pe_var hN hv hd hcd) hr.pa hs, fun F => ck_b i (hr.ck F), hc_b hr.len⟩
/-- the arguments as the callee takes them -/
def arS (ρ : En) : List Ar → Option (List S)
  | [] => some []
  | .d d :: as => (arS ρ as).map (S.val d :: ·)
  | .b i :: as => match ρ[i]? with
    | some (some (.own ds)) => (arS ρ as).map (S.bor ds :: ·)
    | some (some (.bor ds)) => (arS ρ as).map (S.bor ds :: ·)
    | some (some (.fro ds)) => (arS ρ as).map (S.fro ds :: ·)
    | _ => none
/-- the borrowed lists given back -/
def putB : List Ar → En → En → Option En
  | [], _, ρ => some ρ
  | .d _ :: as, fin, ρ => putB as fin.tail ρ
  | .b i :: as, fin, ρ => match ρ[i]?, fin.head? with
    | some (some (.own _)), some (some (.bor ds)) => putB as fin.tail (ρ.set i (some (.own ds)))
    | some (some (.bor _)), some (some (.bor ds)) => putB as fin.tail (ρ.set i (some (.bor ds)))
    | some (some (.fro _)), _ => putB as fin.tail ρ
    | _, _ => none
def bIx : List Ar → List Nat
  | [] => []
  | .d _ :: as => bIx as
  | .b i :: as => i :: bIx as
def rdCall (Fn : FnD) (t : RCa) : RE := fun ρ => (t ρ).bind fun p => if (bIx p.1).Nodup then (arS p.2 p.1).bind fun ss => (Fn ss).bind fun r => (putB p.1 r.2 p.2).map fun ρ2 => (r.1, ρ2) else none
theorem mem_bIx : ∀ {as : List Ar} {k i : Nat}, as[k]? = some (.b i) → i ∈ bIx as
  | [], _, _, e => by simp at e
  | a :: as, 0, i, e => by
    have e : a = .b i := by simpa using e
    subst e
    simp [bIx]
  | a :: as, k + 1, i, e => by
    have h := mem_bIx (as := as) (k := k) (i := i) (by simpa using e)
    cases a with
    | d _ => exact h
    | b j => simp [bIx, h]
theorem of_bIx : ∀ {as : List Ar} {j : Nat}, j ∈ bIx as → ∃ k : Nat, as[k]? = some (.b j)
  | [], _, h => by cases h
  | .d _ :: as, j, h => by
    obtain ⟨k, e⟩ := of_bIx (as := as) (j := j) h
    exact ⟨k + 1, by simpa using e⟩
  | .b i :: as, j, h => by
    rcases List.mem_cons.mp h with z | z
    · subst z
      exact ⟨0, rfl⟩
    · obtain ⟨k, e⟩ := of_bIx (as := as) (j := j) z
      exact ⟨k + 1, by simpa using e⟩
theorem bIx_inj : ∀ {as : List Ar} {k l i : Nat}, (bIx as).Nodup → as[k]? = some (.b i) → as[l]? = some (.b i) → k = l
  | [], _, _, _, _, e, _ => by simp at e
  | a :: as, 0, 0, i, _, _, _ => rfl
  | a :: as, 0, l + 1, i, nd, e, e' => by
    have e : a = .b i := by simpa using e
    subst e
    have := mem_bIx (as := as) (k := l) (i := i) (by simpa using e')
    exact absurd this (List.nodup_cons.mp nd).1
  | a :: as, k + 1, 0, i, nd, e, e' => by
    have e' : a = .b i := by simpa using e'
    subst e'
    have := mem_bIx (as := as) (k := k) (i := i) (by simpa using e)
    exact absurd this (List.nodup_cons.mp nd).1
  | a :: as, k + 1, l + 1, i, nd, e, e' => by
    have nd' : (bIx as).Nodup := by
      cases a with
      | d _ => exact nd
      | b j => exact (List.nodup_cons.mp nd).2
    rw [bIx_inj (k := k) (l := l) nd' (by simpa using e) (by simpa using e')]
theorem arS_get {ρ : En} : ∀ {as : List Ar} {ss : List S}, arS ρ as = some ss → ss.length = as.length ∧ ∀ (k : Nat) (s : S), ss[k]? = some s → (∃ d, as[k]? = some (.d d) ∧ s = .val d) ∨
    ∃ i, as[k]? = some (.b i) ∧ ((∃ ds, ρ[i]? = some (some (.own ds)) ∧ s = .bor ds) ∨ (∃ ds, ρ[i]? = some (some (.bor ds)) ∧ s = .bor ds) ∨ (∃ ds, ρ[i]? = some (some (.fro ds)) ∧ s = .fro ds))
  | [], ss, h => by
    cases h
    exact ⟨rfl, fun k s e => by simp at e⟩
  | .d d :: as, ss, h => by
    unfold arS at h
    cases e : arS ρ as with
    | none => rw [e] at h; cases h
    | some us =>
      rw [e] at h
      cases h
      obtain ⟨hl, hg⟩ := arS_get e
      refine ⟨by simp [hl], fun k s ek => ?_⟩
      cases k with
      | zero =>
        have ek : S.val d = s := by simpa using ek
        exact .inl ⟨d, rfl, ek.symm⟩
      | succ k => simpa using hg k s (by simpa using ek)
  | .b i :: as, ss, h => by
    unfold arS at h
    split at h
    all_goals first
      | cases h; done
      | (rename_i ds ei
         cases e : arS ρ as with
         | none => rw [e] at h; cases h
         | some us =>
           rw [e] at h
           cases h
           obtain ⟨hl, hg⟩ := arS_get e
           refine ⟨by simp [hl], fun k s ek => ?_⟩
           cases k with
           | zero =>
             have ek := (Option.some.inj (by simpa using ek : some _ = some s))
             exact .inr ⟨i, rfl, by first | exact .inl ⟨ds, ei, ek.symm⟩ | exact .inr (.inl ⟨ds, ei, ek.symm⟩) | exact .inr (.inr ⟨ds, ei, ek.symm⟩)⟩
           | succ k => simpa using hg k s (by simpa using ek))
theorem putB_get : ∀ {as : List Ar} {fin ρ ρ2 : En}, putB as fin ρ = some ρ2 → (bIx as).Nodup → ρ2.length = ρ.length ∧ (∀ j, j ∉ bIx as → ρ2[j]? = ρ[j]?) ∧
    ∀ (k i : Nat), as[k]? = some (.b i) → (∃ ds0 ds, ρ[i]? = some (some (.own ds0)) ∧ fin[k]? = some (some (.bor ds)) ∧ ρ2[i]? = some (some (.own ds))) ∨
      (∃ ds0 ds, ρ[i]? = some (some (.bor ds0)) ∧ fin[k]? = some (some (.bor ds)) ∧ ρ2[i]? = some (some (.bor ds))) ∨ (∃ ds, ρ[i]? = some (some (.fro ds)) ∧ ρ2[i]? = some (some (.fro ds)))
  | [], fin, ρ, ρ2, h, _ => by
    cases h
    exact ⟨rfl, fun _ _ => rfl, fun k i e => by simp at e⟩
  | .d d :: as, fin, ρ, ρ2, h, nd => by
    have h : putB as fin.tail ρ = some ρ2 := h
    obtain ⟨hl, ho, hi⟩ := putB_get h nd
    refine ⟨hl, ho, fun k i e => ?_⟩
    cases k with
    | zero => simp at e
    | succ k =>
      have := hi k i (by simpa using e)
      simpa using this
  | .b i :: as, fin, ρ, ρ2, h, nd => by
    unfold putB at h
    have nd' := List.nodup_cons.mp nd
    split at h
    · rename_i d0 ds e1 e2
      have hil : i < ρ.length := (List.getElem?_eq_some_iff.mp e1).1
      obtain ⟨hl, ho, hi⟩ := putB_get h nd'.2
      refine ⟨by rw [hl]; simp, fun j hj => ?_, fun k l e => ?_⟩
      · have hj' : j ≠ i ∧ j ∉ bIx as := by simpa [bIx] using hj
        rw [ho j hj'.2, List.getElem?_set_ne (Ne.symm hj'.1)]
      · cases k with
        | zero =>
          have e : i = l := by simpa using e
          subst e
          refine .inl ⟨d0, ds, e1, by rw [← e2, List.head?_eq_getElem?], ?_⟩
          rw [ho i nd'.1, List.getElem?_set_self hil]
        | succ k =>
          have e : as[k]? = some (.b l) := by simpa using e
          have hne : l ≠ i := fun z => nd'.1 (by rw [← z]; exact mem_bIx e)
          have := hi k l e
          rw [List.getElem?_set_ne (Ne.symm hne)] at this
          simpa using this
    · rename_i d0 ds e1 e2
      have hil : i < ρ.length := (List.getElem?_eq_some_iff.mp e1).1
      obtain ⟨hl, ho, hi⟩ := putB_get h nd'.2
      refine ⟨by rw [hl]; simp, fun j hj => ?_, fun k l e => ?_⟩
      · have hj' : j ≠ i ∧ j ∉ bIx as := by simpa [bIx] using hj
        rw [ho j hj'.2, List.getElem?_set_ne (Ne.symm hj'.1)]
      · cases k with
        | zero =>
          have e : i = l := by simpa using e
          subst e
          refine .inr (.inl ⟨d0, ds, e1, by rw [← e2, List.head?_eq_getElem?], ?_⟩)
          rw [ho i nd'.1, List.getElem?_set_self hil]
        | succ k =>
          have e : as[k]? = some (.b l) := by simpa using e
          have hne : l ≠ i := fun z => nd'.1 (by rw [← z]; exact mem_bIx e)
          have := hi k l e
          rw [List.getElem?_set_ne (Ne.symm hne)] at this
          simpa using this
    · rename_i ds e1
      obtain ⟨hl, ho, hi⟩ := putB_get h nd'.2
      refine ⟨hl, fun j hj => ?_, fun k l e => ?_⟩
      · have hj' : j ≠ i ∧ j ∉ bIx as := by simpa [bIx] using hj
        exact ho j hj'.2
      · cases k with
        | zero =>
          have e : i = l := by simpa using e
          subst e
          exact .inr (.inr ⟨_, e1, by rw [ho i nd'.1]; exact e1⟩)
        | succ k =>
          have e : as[k]? = some (.b l) := by simpa using e
          have := hi k l e
          simpa using this
    · cases h
theorem ek_call {n : Nat} {Fn : FnD} (hc : CK K F tas rcs) (hlen : ∀ ρ as ρ', rcs ρ = some (as, ρ') → as.length = n) : EK K F (tCall (spD K n Fn) [] E0 tas) (rdCall Fn rcs) := by
  intro G H σ ρ ρ' s E ht Q q
  unfold rdCall at ht
  cases e1 : rcs ρ with
  | none => rw [e1] at ht; cases ht
  | some p =>
    rw [e1] at ht
    obtain ⟨as, ρ1⟩ := p
    simp only [Option.bind_some] at ht
    split at ht
    · rename_i nd
      cases e2 : arS ρ1 as with
      | none => rw [e2] at ht; cases ht
      | some ss =>
        rw [e2] at ht
        simp only [Option.bind_some] at ht
        cases e3 : Fn ss with
        | none => rw [e3] at ht; cases ht
        | some r =>
          rw [e3] at ht
          simp only [Option.bind_some] at ht
          cases e4 : putB as r.2 ρ1 with
          | none => rw [e4] at ht; cases ht
          | some ρ2 =>
            rw [e4] at ht
            cases ht
            refine hc G H σ ρ ρ1 as E e1 _ fun vs G1 H1 x1 E1 av => ?_
            obtain ⟨hsl, hsg⟩ := arS_get e2
            obtain ⟨hpl, hpo, hpi⟩ := putB_get e4 nd
            show spD K n Fn (vs ++ []) H1 Q E0
            rw [List.append_nil]
            -- what an argument that is a name's own list is
            have mu_of : ∀ (k : Nat) (t : S), ss[k]? = some t → t.mu = true → ∃ i s0, as[k]? = some (.b i) ∧ ρ1[i]? = some (some s0) ∧ s0.mu = true := fun k t ek m => by
              rcases hsg k t ek with ⟨d, _, rfl⟩ | ⟨i, ei, ⟨ds, q1, rfl⟩ | ⟨ds, q1, rfl⟩ | ⟨ds, q1, rfl⟩⟩
              · cases m
              · exact ⟨i, _, ei, q1, rfl⟩
              · exact ⟨i, _, ei, q1, rfl⟩
              · cases m
            refine ⟨G1, fun a => ∃ (k i : Nat) (s0 : S), as[k]? = some (.b i) ∧ ρ1[i]? = some (some s0) ∧ s0.mu = true ∧ σ[i]? = some (some (.ref a)), ss, r.1, r.2, e3, by rw [av.len]; exact hlen _ _ _ e1, by rw [hsl]; exact hlen _ _ _ e1, E1.exG, ?_, ?_, ?_, ?_⟩
            · rintro a ⟨k, i, s0, _, ei, m, qi⟩
              obtain ⟨_, vs', hh, _⟩ := E1.known ei m qi
              exact ⟨_, hh⟩
            · intro k t ek
              rcases hsg k t ek with ⟨d, ed, rfl⟩ | ⟨i, ei, hh⟩
              · obtain ⟨v, qv, rv⟩ := av.getD ed
                exact ⟨v, qv, rv⟩
              · obtain ⟨v, qv, sv⟩ := av.getB ei
                refine ⟨v, qv, ?_⟩
                rcases hh with ⟨ds, q1, rfl⟩ | ⟨ds, q1, rfl⟩ | ⟨ds, q1, rfl⟩
                · obtain ⟨v', qv', a, vs', rfl, w, g, hh, kk⟩ := E1.slot i _ q1
                  rw [sv] at qv'
                  cases qv'
                  exact ⟨a, vs', rfl, ⟨k, i, _, ei, q1, rfl, sv⟩, g, hh, kk⟩
                · obtain ⟨v', qv', vs', rfl, w, g, hh, kk⟩ := E1.slot i _ q1
                  rw [sv] at qv'
                  cases qv'
                  exact ⟨_, vs', rfl, ⟨k, i, _, ei, q1, rfl, sv⟩, g, hh, kk⟩
                · obtain ⟨v', qv', a, vs', rfl, hh, kk⟩ := E1.slot i _ q1
                  rw [sv] at qv'
                  cases qv'
                  exact ⟨a, vs', rfl, hh, kk⟩
            · intro k l t t' a hkl ek el m1 m2 q1 q2
              obtain ⟨i, s1, ei, fi, mi⟩ := mu_of k t ek m1
              obtain ⟨j, s2, ej, fj, mj⟩ := mu_of l t' el m2
              obtain ⟨v, qv, sv⟩ := av.getB ei
              obtain ⟨v', qv', sv'⟩ := av.getB ej
              rw [q1] at qv
              rw [q2] at qv'
              cases qv
              cases qv'
              refine E1.sep i j s1 s2 a (fun z => hkl ?_) fi fj mi mj sv sv'
              subst z
              exact bIx_inj nd ei ej
            · intro v G' H' sG hnew sGH hpres hLs hfin hr
              have x2 : Ext F G1 G' := ⟨sG, fun a h1 h2 => (E1.fresh (hnew a h1 h2)).1⟩
              -- other own lists stand as they stood
              have keep : ∀ (j : Nat) (s0 : S) (a : Addr), j ∉ bIx as → ρ1[j]? = some (some s0) → s0.mu = true → σ[j]? = some (some (.ref a)) → (∃ vs', H1 a = some (.lst vs') ∧ H' a = some (.lst vs')) ∧ G' a = none := fun j s0 a hj ej m qj => by
                obtain ⟨g, vs', hh, _⟩ := E1.known ej m qj
                refine ⟨⟨vs', hh, hpres a _ ?_ hh⟩, ?_⟩
                · rintro ⟨k, i, s1, ek, ei, mi, qi⟩
                  exact E1.sep j i s0 s1 a (fun z => hj (by rw [z]; exact mem_bIx ek)) ej ei m mi qj qi
                · cases z : G' a with
                  | none => rfl
                  | some o =>
                    have := hnew a g (by rw [z]; intro w; cases w)
                    rw [hh] at this; cases this
              have back : ∀ (k i : Nat) (s0 : S) (a : Addr), as[k]? = some (.b i) → ρ1[i]? = some (some s0) → s0.mu = true → σ[i]? = some (some (.ref a)) → ∀ ds, r.2[k]? = some (some (.bor ds)) → ∃ vs', H' a = some (.lst vs') ∧ RPs K G' vs' ds ∧ G' a = none := fun k i s0 a ek ei m qi ds ef => by
                obtain ⟨v0, qv, sv⟩ := av.getB ek
                rw [qi] at sv
                cases sv
                obtain ⟨vs', h1, h2⟩ := hfin k ds a ef qv ⟨k, i, s0, ek, ei, m, qi⟩
                refine ⟨vs', h1, h2, ?_⟩
                obtain ⟨g, vs0, hh, _⟩ := E1.known ei m qi
                cases z : G' a with
                | none => rfl
                | some o =>
                  have := hnew a g (by rw [z]; intro w; cases w)
                  rw [hh] at this; cases this
              have mu2 : ∀ (j : Nat) (t : S), ρ'[j]? = some (some t) → t.mu = true → ∃ s0, ρ1[j]? = some (some s0) ∧ s0.mu = true := fun j t ej m => by
                by_cases hj : j ∈ bIx as
                · obtain ⟨k, ek⟩ := of_bIx hj
                  rcases hpi k j ek with ⟨d0, ds, f1, f2, f3⟩ | ⟨d0, ds, f1, f2, f3⟩ | ⟨ds, f1, f3⟩
                  · exact ⟨_, f1, rfl⟩
                  · exact ⟨_, f1, rfl⟩
                  · rw [ej] at f3
                    cases f3
                    cases m
                · rw [hpo j hj] at ej
                  exact ⟨t, ej, m⟩
              have E2 : ER K F G' H' σ ρ' := by
                refine ⟨by rw [hpl]; exact E1.len, fun a o z => ?_, sGH, fun a z => ?_, E1.nbL, fun j t ej => ?_, fun j k t t' a hjk ej ek m1 m2 q1 q2 => ?_⟩
                · refine hpres a o ?_ (E1.exB a o z)
                  rintro ⟨k, i, s1, ek, ei, mi, qi⟩
                  obtain ⟨_, _, _, _, nb⟩ := E1.known ei mi qi
                  rw [nb] at z; cases z
                · obtain ⟨o, hh⟩ := E1.exL a z
                  by_cases hl : ∃ (k i : Nat) (s0 : S), as[k]? = some (.b i) ∧ ρ1[i]? = some (some s0) ∧ s0.mu = true ∧ σ[i]? = some (some (.ref a))
                  · exact hLs a hl
                  · exact ⟨o, hpres a o hl hh⟩
                · by_cases hj : j ∈ bIx as
                  · obtain ⟨k, ek⟩ := of_bIx hj
                    rcases hpi k j ek with ⟨d0, ds, f1, f2, f3⟩ | ⟨d0, ds, f1, f2, f3⟩ | ⟨ds, f1, f3⟩
                    · rw [ej] at f3
                      cases f3
                      obtain ⟨v0, qv, a, vs', rfl, w, g, hh, kk⟩ := E1.slot j _ f1
                      obtain ⟨vs2, h1, h2, h3⟩ := back k j _ a ek f1 rfl qv ds f2
                      exact ⟨_, qv, a, vs2, rfl, w, h3, h1, h2⟩
                    · rw [ej] at f3
                      cases f3
                      obtain ⟨v0, qv, vs', rfl, w, g, hh, kk⟩ := E1.slot j _ f1
                      obtain ⟨vs2, h1, h2, h3⟩ := back k j _ _ ek f1 rfl qv ds f2
                      exact ⟨_, qv, vs2, rfl, w, h3, h1, h2⟩
                    · rw [ej] at f3
                      cases f3
                      obtain ⟨v0, qv, a, vs', rfl, hh, kk⟩ := E1.slot j _ f1
                      exact ⟨_, qv, a, vs', rfl, sG.seq hh, dps_mono sG _ _ kk⟩
                  · rw [hpo j hj] at ej
                    obtain ⟨v0, qv, rv⟩ := E1.slot j t ej
                    refine ⟨v0, qv, ?_⟩
                    cases t with
                    | val d => exact dp_mono sG _ _ rv
                    | fro ds =>
                      obtain ⟨a, vs', rfl, hh, kk⟩ := rv
                      exact ⟨a, vs', rfl, sG.seq hh, dps_mono sG _ _ kk⟩
                    | own ds =>
                      obtain ⟨a, vs', rfl, w, g, hh, kk⟩ := rv
                      obtain ⟨⟨vs2, h1, h2⟩, h3⟩ := keep j _ a hj ej rfl qv
                      rw [hh] at h1
                      cases h1
                      exact ⟨a, vs', rfl, w, h3, h2, dps_mono sG _ _ kk⟩
                    | bor ds =>
                      obtain ⟨vs', rfl, w, g, hh, kk⟩ := rv
                      obtain ⟨⟨vs2, h1, h2⟩, h3⟩ := keep j _ _ hj ej rfl qv
                      rw [hh] at h1
                      cases h1
                      exact ⟨vs', rfl, w, h3, h2, dps_mono sG _ _ kk⟩
                · obtain ⟨s1, f1, n1⟩ := mu2 j t ej m1
                  obtain ⟨s2, f2, n2⟩ := mu2 k t' ek m2
                  exact E1.sep j k s1 s2 a hjk f1 f2 n1 n2 q1 q2
              refine q v G' H' (x1.trans x2) E2 ?_
              generalize r.1 = rr at hr ⊢
              cases rr with
              | val d => exact hr
              | bor ds => exact hr.elim
              | fro ds => exact hr.elim
              | own ds =>
                obtain ⟨a, vs', rfl, h0, g, hh, kk⟩ := hr
                refine ⟨a, vs', rfl, (E1.fresh h0).1, g, hh, kk, fun j t ej m q' => ?_⟩
                obtain ⟨s1, f1, n1⟩ := mu2 j t ej m
                obtain ⟨_, vs2, h2, _⟩ := E1.known f1 n1 q'
                rw [h0] at h2; cases h2
    · cases ht
theorem d_call {x : Str} {k n : Nat} {Fn : FnD} (D : DFn X.prog X.w X.K X.mg X.base x k n Fn) (hr : Room k X.A) (hc : DC K X (e :: es) tas rcs) (hl : (e :: es).length = n := by rfl) (hK : X.K = K := by rfl) (hg : Gl X x := by rfl)
    (hdb : (x == ("__debug__" : Str)) = false := by decide) (he : starEach (e :: es) X.env = (false, eval e X.env) :: starEach es X.env := by rfl) (hpl : (backTo pos (starEach es X.env)).any (·.1) = false := by rfl) :
    DE K X (.Call (.Name x p) (e :: es) [] pos) (tCall (spD K n Fn) [] E0 tas) (rdCall Fn rcs) := by
  subst hK
  obtain ⟨f, fd, ps, F, hm, hk, hb⟩ := D.ex
  exact ⟨pe_call F hr hg hm hk hb .nil pass0 hc.pa hdb he hpl, fun F => ek_call (hc.ck F) fun ρ as ρ' h => (hc.len ρ as ρ' h).trans hl⟩
theorem d_call0 {x : Str} {k : Nat} {Fn : FnD} (D : DFn X.prog X.w X.K X.mg X.base x k 0 Fn) (hr : Room k X.A) (hK : X.K = K := by rfl) (hg : Gl X x := by rfl)
    (hdb : (x == ("__debug__" : Str)) = false := by decide) : DE K X (.Call (.Name x p) [] [] pos) (tCall (spD K 0 Fn) [] E0 tNil) (rdCall Fn rcNil) := by
  subst hK
  obtain ⟨f, fd, ps, F, hm, hk, hb⟩ := D.ex
  exact ⟨pe_call0 F hr hg hm hk hb .nil pass0 hdb, fun F => ek_call (dc_nil (X := X).ck F) hc_nil⟩
end
end DL

set_option Elab.async false
set_option linter.all false
set_option maxRecDepth 100000
set_option maxHeartbeats 4000000
namespace DL
open PySem L2 PyProof.Rows PySem.Spec
abbrev fSub : D → D → Option S := fI fun i j => .int (i - j)
abbrev fMul : D → D → Option S := fIc (fun i j => (-(2 ^ 64) < i ∧ i < 2 ^ 64) ∨ (-(2 ^ 64) < j ∧ j < 2 ^ 64)) fun i j => .int (i * j)
abbrev fDiv : D → D → Option S := fIc (fun _ j => 0 < j ∧ j < 1073741824) fun i j => .int (i / j)
abbrev fMod : D → D → Option S := fIc (fun _ j => 0 < j) fun i j => .int (i % j)
abbrev fPow : D → D → Option S := fIc (fun i j => 0 ≤ j ∧ j ≤ 1000000 ∧ i.natAbs < 2 ^ 64) fun i j => .int (i ^ j.toNat)
abbrev fLt : D → D → Option S := fI fun i j => .bool (decide (i < j))
abbrev fLe : D → D → Option S := fI fun i j => .bool (decide (i ≤ j))
abbrev fGt : D → D → Option S := fI fun i j => .bool (decide (j < i))
abbrev fGe : D → D → Option S := fI fun i j => .bool (decide (j ≤ i))
abbrev leB : Int → Int → Bool := fun i j => decide (i ≤ j)
abbrev ltB : Int → Int → Bool := fun i j => decide (i < j)
abbrev fSum : List D → Option S := fInts fun ns => some (.int ns.sum)
abbrev fMax : List D → Option S := fInts maxI
abbrev fMin : List D → Option S := fInts minI
abbrev fMax2 : List D → Option S := f2 fun i j => if j > i then j else i
abbrev fMin2 : List D → Option S := f2 fun i j => if j < i then j else i
abbrev fAll : List D → Option S := fBls fun bs => bs.all id
abbrev fAny : List D → Option S := fBls fun bs => bs.any id
/-- the built-in names that the module leaves as they are -/
structure Tx (mg : Str → Option Value) : Prop where
  len : mg ("len" : Str) = none
  int : mg ("int" : Str) = none
  tup : mg ("tuple" : Str) = none
  list : mg ("list" : Str) = none
  bool : mg ("bool" : Str) = none
  str : mg ("str" : Str) = none
  max : mg ("max" : Str) = none
  min : mg ("min" : Str) = none
  sum : mg ("sum" : Str) = none
  sorted : mg ("sorted" : Str) = none
  all : mg ("all" : Str) = none
  any : mg ("any" : Str) = none
  isi : mg ("isinstance" : Str) = none
  range : mg ("range" : Str) = none
  abs : mg ("abs" : Str) = none
  set : mg ("set" : Str) = none
theorem bt_len : bootBuiltins ("len" : Str) = some (.builtin "len") := by decide +kernel
theorem bt_int : bootBuiltins ("int" : Str) = some (.type "int") := by decide +kernel
theorem bt_tuple : bootBuiltins ("tuple" : Str) = some (.type "tuple") := by decide +kernel
theorem bt_list : bootBuiltins ("list" : Str) = some (.type "list") := by decide +kernel
theorem bt_bool : bootBuiltins ("bool" : Str) = some (.type "bool") := by decide +kernel
theorem bt_str : bootBuiltins ("str" : Str) = some (.type "str") := by decide +kernel
theorem bt_max : bootBuiltins ("max" : Str) = some (.builtin "max") := by decide +kernel
theorem bt_min : bootBuiltins ("min" : Str) = some (.builtin "min") := by decide +kernel
theorem bt_sum : bootBuiltins ("sum" : Str) = some (.builtin "sum") := by decide +kernel
theorem bt_sorted : bootBuiltins ("sorted" : Str) = some (.builtin "sorted") := by decide +kernel
theorem bt_all : bootBuiltins ("all" : Str) = some (.builtin "all") := by decide +kernel
theorem bt_any : bootBuiltins ("any" : Str) = some (.builtin "any") := by decide +kernel
theorem bt_abs : bootBuiltins ("abs" : Str) = some (.builtin "abs") := by decide +kernel
theorem bt_set : bootBuiltins ("set" : Str) = some (.type "set") := by decide +kernel
theorem hu65 {k : Nat} {A : Around} (h : Room k A) : A.units + 65 < cLine := by
  have := h.un
  omega
section
variable {P : Program} {w : World} {K : PySem.W.Frag} {mg : Str → Option Value} {base : Heap}
theorem dfn_zero {x : Str} {st : Stmt} {f : Addr} {fd : FuncData} {ps : List Str} {n : Nat} (F : Fun K x x st f fd) (hm : mg x = some (.ref f)) (hb : Binds K fd ps []) (hn : ps.length = n) (k : Nat) : DFn P w K mg base x k n (fun _ => none) :=
  have no : ∀ {vs H Q E}, spD K n (fun _ => none) vs H Q E → False := fun h => by
    obtain ⟨_, _, _, _, _, hf, _⟩ := h
    cases hf
  ⟨f, fd, ps, ⟨fun vs H Q E h => (no h).elim, fun A outer s H args us vs Q E _ _ _ _ h => (no h).elim⟩, hm, F.kp, hb⟩
end
section
variable {K : PySem.W.Frag} {X : Cx} {a b c : Expr} {ta tb tc : TE} {rA rB rC : RE} {pos : Pos}
theorem d_tchLeLt (ha : DE K X a ta rA) (hb : DE K X b tb rB) (hc : DE K X c tc rC) (hm : lastMarks [CmpOp.LtE, CmpOp.Lt] [b, c] = false := by with_unfolding_all rfl) :
    DT K X (.Compare a [.LtE, .Lt] [b, c] pos) (tTest (tChain (rI0 fun i j => .bl (decide (i ≤ j))) (rI0 fun i j => .bl (decide (i < j))) ta tb tc)) (rdTst (rdChain leB ltB rA rB rC)) :=
  ⟨pt_chain op_le op_lt ha.pe hb.pe hc.pe hm, fun F => tk_tst (ek_chain (ha.ek F) (hb.ek F) (hc.ek F))⟩
end
/-- the law's own promise: what is asked of the script's walk -/
theorem law_sp {K : PySem.W.Frag} {H : Hp} {a : Addr} {ns : List Int} {Fn : FnD} (h : ∃ fin, Fn [.fro (ns.map PyData.int)] = some (.val (.bool true), fin)) (hS : SqL K H a (ns.map V.int)) :
    spD K 1 Fn [.ref a] H (fun v _ => v = .bl true) fun _ _ _ => False := by
  obtain ⟨fin, h⟩ := h
  refine ⟨H, fun _ => False, _, _, fin, h, rfl, rfl, fun _ _ e => e, fun _ z => z.elim, fun i s e => ?_, fun i j s t b hij e1 e2 m1 => ?_, fun v G' H' _ _ _ _ _ _ r => dp_bl r⟩
  · cases i with
    | zero =>
      cases e
      exact ⟨_, rfl, a, _, rfl, hS, ints_dps ns⟩
    | succ i => simp at e
  · cases i with
    | zero =>
      cases e1
      cases m1
    | succ i => simp at e1
end DL

set_option Elab.async false
set_option linter.all false
set_option maxRecDepth 100000
set_option maxHeartbeats 4000000
namespace K50
open PySem L2 DL PyProof.Rows PySem.Spec
def top (i : Nat) : Stmt := PySem.Challenge.pw_justtherest_k50_costs_over_rows.main.body.getD i (.Pass ⟨0, 0, 0, 0⟩)
section
variable {P : Program} {w : World} {K : PySem.W.Frag} {mg : Str → Option Value} {base : Heap}
abbrev s_goes_to : Stmt := top 1
theorem sc_goes_to : FnScope ["jump"] ["jump"] (defScope s_goes_to) := ⟨rfl, rfl, rfl, by decide +kernel, rfl, by decide +kernel, by decide +kernel⟩
def b_goes_to : RS :=
  rsSeq (rsIf (rdTst (rdBin (fEq false) (rdIxV 0 (rdC (.int 0))) (rdC (.str "goto"))))
    (rsRet (rdTup (raCons (rdIxV 0 (rdC (.int 1))) (raNil))))
    (rsNil))
  (rsSeq (rsIf (rdTst (rdBin (fEq false) (rdIxV 0 (rdC (.int 0))) (rdC (.str "test"))))
    (rsRet (rdTup (raCons (rdIxV 0 (rdC (.int 2))) (raCons (rdIxV 0 (rdC (.int 3))) (raNil)))))
    (rsNil))
  (rsRet (rdTup (raNil))))
def f_goes_to : FnD := runF 1 b_goes_to
theorem ok_goes_to {fa : Addr} {fd : FuncData} (Fu : Fun K "goes_to" "goes_to" s_goes_to fa fd) (hm : mg "goes_to" = some (.ref fa)) (T : Tx mg)  : DFn P w K mg base "goes_to" 1 1 f_goes_to := by
  refine dfn_ok (k := 0) Fu hm (Fu.binds (ps := ["jump"]) fun _ _ _ _ _ _ us hl => match us, hl with | [_], _ => rfl) sc_goes_to rfl (by decide) ?_
  intro cdv A outer s H E hr
  have hu := hu65 hr
  exact ⟨_, ds_cons (d_ifS (d_tcmp (b_eq hu) (d_ixV 0 (d_int)) (d_str))
        (ds_one (d_ret (d_tup (da_cons (d_ixV 0 (d_int)) (da_nil)))))
        (ds_nil))
      (ds_cons (d_ifS (d_tcmp (b_eq hu) (d_ixV 0 (d_int)) (d_str))
        (ds_one (d_ret (d_tup (da_cons (d_ixV 0 (d_int)) (da_cons (d_ixV 0 (d_int)) (da_nil))))))
        (ds_nil))
      (ds_one (d_ret (d_tup (da_nil)))))⟩
def w_found_from_1 : RS :=
  rsIf (rdTst (rdInV true (rdVar 4) 2))
    (rsExpr (rdApp 2 (rdVar 4)))
    (rsNil)
def t_found_from_2 : RT :=
  rdTst (rdBin fLt (rdVar 3) (rdLenV 2))
def w_found_from_3 : RS :=
  rsSeq (rsFor (riSeq (rdCall f_goes_to (rcCons (rdBin fIx (rdBin fIx (rdIxV 0 (rdC (.int 1))) (rdIxV 2 (rdVar 3))) (rdC (.int 1))) (rcNil)))) (rgName 4) w_found_from_1 [4])
  (rsAug 3 (fun i j => i + j) (rdC (.int 1)))
abbrev s_found_from : Stmt := top 2
theorem sc_found_from : FnScope ["program", "block", "found", "at", "number"] ["program", "block"] (defScope s_found_from) := ⟨rfl, rfl, rfl, by decide +kernel, rfl, by decide +kernel, by decide +kernel⟩
def b_found_from : RS :=
  rsSeq (rsSet 2 (rdLst (raCons (rdVar 1) (raNil))))
  (rsSeq (rsSet 3 (rdC (.int 0)))
  (rsSeq (rsWh 100000 t_found_from_2 w_found_from_3 [4])
  (rsRet (rdCB fTuple (raCons (rdVar 2) (raNil))))))
def f_found_from : FnD := runF 5 b_found_from
theorem ok_found_from {fa : Addr} {fd : FuncData} (Fu : Fun K "found_from" "found_from" s_found_from fa fd) (hm : mg "found_from" = some (.ref fa)) (T : Tx mg) (D_goes_to : DFn P w K mg base "goes_to" 1 1 f_goes_to) : DFn P w K mg base "found_from" 2 2 f_found_from := by
  replace D_goes_to := D_goes_to.mono (show 1 ≤ 1 by omega)
  refine dfn_ok (k := 1) Fu hm (Fu.binds (ps := ["program", "block"]) fun _ _ _ _ _ _ us hl => match us, hl with | [_, _], _ => rfl) sc_found_from rfl (by decide) ?_
  intro cdv A outer s H E hr
  have hu := hu65 hr
  exact ⟨_, ds_cons (d_set 2 (d_lst (da_cons (d_var 1) (da_nil))) sc_found_from.nd)
      (ds_cons (d_set 3 (d_int) sc_found_from.nd)
      (ds_cons (d_while 100000 [4] (d_tcmp (b_lt) (d_var 3) (d_lenV 2 T.len))
        (ds_cons (d_for [4] (di_seq (d_call D_goes_to hr (dc_cons (d_ix (d_ix (d_ixV 0 (d_int)) (d_ixV 2 (d_var 3))) (d_int)) (dc_nil)))) (dg_name 4 sc_found_from.nd)
        (ds_one (d_ifS (d_tniV 2 hu (d_var 4))
        (ds_one (d_expr (d_app 2 (d_var 4))))
        (ds_nil))))
      (ds_one (d_augA 3 (d_int) sc_found_from.nd))))
      (ds_one (d_ret (d_ct c_tuple T.tup bt_tuple (da_cons (d_var 2) (da_nil)))))))⟩
abbrev s_reached : Stmt := top 3
theorem sc_reached : FnScope ["program"] ["program"] (defScope s_reached) := ⟨rfl, rfl, rfl, by decide +kernel, rfl, by decide +kernel, by decide +kernel⟩
def b_reached : RS :=
  rsRet (rdCB fTuple (raCons (rdCB fSorted (raCons (rdCall f_found_from (rcCons (rdVar 0) (rcCons (rdC (.int 0)) (rcNil)))) (raNil))) (raNil)))
def f_reached : FnD := runF 1 b_reached
theorem ok_reached {fa : Addr} {fd : FuncData} (Fu : Fun K "reached" "reached" s_reached fa fd) (hm : mg "reached" = some (.ref fa)) (T : Tx mg) (D_found_from : DFn P w K mg base "found_from" 2 2 f_found_from) : DFn P w K mg base "reached" 3 1 f_reached := by
  replace D_found_from := D_found_from.mono (show 2 ≤ 2 by omega)
  refine dfn_ok (k := 2) Fu hm (Fu.binds (ps := ["program"]) fun _ _ _ _ _ _ us hl => match us, hl with | [_], _ => rfl) sc_reached rfl (by decide) ?_
  intro cdv A outer s H E hr
  have hu := hu65 hr
  exact ⟨_, ds_one (d_ret (d_ct c_tuple T.tup bt_tuple (da_cons (d_cb c_sorted T.sorted bt_sorted (da_cons (d_call D_found_from hr (dc_cons (d_var 0) (dc_cons (d_int) (dc_nil)))) (da_nil))) (da_nil))))⟩
abbrev s_ways_behind : Stmt := top 5
theorem sc_ways_behind : FnScope ["program", "block"] ["program", "block"] (defScope s_ways_behind) := ⟨rfl, rfl, rfl, by decide +kernel, rfl, by decide +kernel, by decide +kernel⟩
def b_ways_behind : RS :=
  rsRet (rdCall f_goes_to (rcCons (rdBin fIx (rdBin fIx (rdIxV 0 (rdC (.int 1))) (rdVar 1)) (rdC (.int 1))) (rcNil)))
def f_ways_behind : FnD := runF 2 b_ways_behind
theorem ok_ways_behind {fa : Addr} {fd : FuncData} (Fu : Fun K "ways_behind" "ways_behind" s_ways_behind fa fd) (hm : mg "ways_behind" = some (.ref fa)) (T : Tx mg) (D_goes_to : DFn P w K mg base "goes_to" 1 1 f_goes_to) : DFn P w K mg base "ways_behind" 2 2 f_ways_behind := by
  replace D_goes_to := D_goes_to.mono (show 1 ≤ 1 by omega)
  refine dfn_ok (k := 1) Fu hm (Fu.binds (ps := ["program", "block"]) fun _ _ _ _ _ _ us hl => match us, hl with | [_, _], _ => rfl) sc_ways_behind rfl (by decide) ?_
  intro cdv A outer s H E hr
  have hu := hu65 hr
  exact ⟨_, ds_one (d_ret (d_call D_goes_to hr (dc_cons (d_ix (d_ix (d_ixV 0 (d_int)) (d_var 1)) (d_int)) (dc_nil))))⟩
def e_fewest_steps_1 : RE :=
  rdIxV 1 (rdVar 5)
def w_fewest_steps_2 : RS :=
  rsSeq (rsSet 4 (rdCall f_ways_behind (rcCons (rdVar 0) (rcCons (rdVar 3) (rcNil)))))
  (rsIf (rtAnd (rdTst (rdIsN false (rdIxV 1 (rdVar 3)))) (rtOr (rdTst (rdBin (fEq false) (rdLenV 4) (rdC (.int 0)))) (rdTst (rdBin (fIn false) (rdBin fSub (rdVar 2) (rdC (.int 1))) (rdLc (riSeq (rdVar 4)) (rgName 5) rtYes (e_fewest_steps_1) [5])))))
    (rsSub 1 (rdVar 3) (rdVar 2))
    (rsNil))
def w_fewest_steps_3 : RS :=
  rsFor (riRng1 (rdLenV 1)) (rgName 3) w_fewest_steps_2 [3, 4]
abbrev s_fewest_steps : Stmt := top 6
theorem sc_fewest_steps : FnScope ["program", "told", "steps", "block", "ways", "own"] ["program"] (defScope s_fewest_steps) := ⟨rfl, rfl, rfl, by decide +kernel, rfl, by decide +kernel, by decide +kernel⟩
def b_fewest_steps : RS :=
  rsSeq (rsSet 1 (rdBin fRep (rdLst (raCons (rdC .none) (raNil))) (rdCB fLen (raCons (rdIxV 0 (rdC (.int 1))) (raNil)))))
  (rsSeq (rsFor (riRng2 (rdC (.int 1)) (rdBin fAdd (rdLenV 1) (rdC (.int 1)))) (rgName 2) w_fewest_steps_3 [2, 3, 4])
  (rsRet (rdVar 1)))
def f_fewest_steps : FnD := runF 6 b_fewest_steps
theorem ok_fewest_steps {fa : Addr} {fd : FuncData} (Fu : Fun K "fewest_steps" "fewest_steps" s_fewest_steps fa fd) (hm : mg "fewest_steps" = some (.ref fa)) (T : Tx mg) (D_ways_behind : DFn P w K mg base "ways_behind" 2 2 f_ways_behind) : DFn P w K mg base "fewest_steps" 3 1 f_fewest_steps := by
  replace D_ways_behind := D_ways_behind.mono (show 2 ≤ 2 by omega)
  refine dfn_ok (k := 2) Fu hm (Fu.binds (ps := ["program"]) fun _ _ _ _ _ _ us hl => match us, hl with | [_], _ => rfl) sc_fewest_steps rfl (by decide) ?_
  intro cdv A outer s H E hr
  have hu := hu65 hr
  exact ⟨_, ds_cons (d_set 1 (d_bin b_rep (d_lst (da_cons (d_non) (da_nil))) (d_cb c_len T.len bt_len (da_cons (d_ixV 0 (d_int)) (da_nil)))) sc_fewest_steps.nd)
      (ds_cons (d_for [2, 3, 4] (di_rng2 (d_int) (d_bin b_add (d_lenV 1 T.len) (d_int)) T.range) (dg_name 2 sc_fewest_steps.nd)
        (ds_one (d_for [3, 4] (di_rng1 (d_lenV 1 T.len) T.range) (dg_name 3 sc_fewest_steps.nd)
        (ds_cons (d_set 4 (d_call D_ways_behind hr (dc_cons (d_var 0) (dc_cons (d_var 3) (dc_nil)))) sc_fewest_steps.nd)
      (ds_one (d_ifS (d_tw (d_tand (d_tisN (d_ixV 1 (d_var 3))) (d_tand1 (d_tw (d_tor (d_tcmp (b_eq hu) (d_lenV 4 T.len) (d_int)) (d_tor1 (d_tcmp (b_in hu) (d_bin b_sub (d_var 2) (d_int)) (d_lcE (d_lc0 (own := [("own", 5)]) (di_seq (d_var 4)) (fun _ _ _ _ _ => dg_name 5 sc_fewest_steps.nd) (fun _ _ _ _ _ => d_ixV 1 (d_var 5))) sc_fewest_steps.nd))))))))
        (ds_one (d_sub 1 (d_var 3) (d_var 2)))
        (ds_nil)))))))
      (ds_one (d_ret (d_var 1))))⟩
abbrev s_least_steps : Stmt := top 7
theorem sc_least_steps : FnScope ["program"] ["program"] (defScope s_least_steps) := ⟨rfl, rfl, rfl, by decide +kernel, rfl, by decide +kernel, by decide +kernel⟩
def b_least_steps : RS :=
  rsRet (rdBin fIx (rdCall f_fewest_steps (rcCons (rdVar 0) (rcNil))) (rdC (.int 0)))
def f_least_steps : FnD := runF 1 b_least_steps
theorem ok_least_steps {fa : Addr} {fd : FuncData} (Fu : Fun K "least_steps" "least_steps" s_least_steps fa fd) (hm : mg "least_steps" = some (.ref fa)) (T : Tx mg) (D_fewest_steps : DFn P w K mg base "fewest_steps" 3 1 f_fewest_steps) : DFn P w K mg base "least_steps" 4 1 f_least_steps := by
  replace D_fewest_steps := D_fewest_steps.mono (show 3 ≤ 3 by omega)
  refine dfn_ok (k := 3) Fu hm (Fu.binds (ps := ["program"]) fun _ _ _ _ _ _ us hl => match us, hl with | [_], _ => rfl) sc_least_steps rfl (by decide) ?_
  intro cdv A outer s H E hr
  have hu := hu65 hr
  exact ⟨_, ds_one (d_ret (d_ix (d_call D_fewest_steps hr (dc_cons (d_var 0) (dc_nil))) (d_int)))⟩
def e_greatest_of_1 : RE :=
  rdIxV 1 (rdVar 4)
abbrev s_greatest_of : Stmt := top 8
theorem sc_greatest_of : FnScope ["program", "told", "block", "behind", "own"] ["program", "told", "block"] (defScope s_greatest_of) := ⟨rfl, rfl, rfl, by decide +kernel, rfl, by decide +kernel, by decide +kernel⟩
def b_greatest_of : RS :=
  rsSeq (rsSet 3 (rdLc (riSeq (rdCall f_ways_behind (rcCons (rdVar 0) (rcCons (rdVar 2) (rcNil))))) (rgName 4) rtYes (e_greatest_of_1) [4]))
  (rsRet (rdIf (rdTst (rdInV false (rdC .none) 3)) (rdC .none) (rdBin fAdd (rdC (.int 1)) (rdCB fMax (raCons (rdBin fAdd (rdLst (raCons (rdC (.int 0)) (raNil))) (rdVar 3)) (raNil))))))
def f_greatest_of : FnD := runF 5 b_greatest_of
theorem ok_greatest_of {fa : Addr} {fd : FuncData} (Fu : Fun K "greatest_of" "greatest_of" s_greatest_of fa fd) (hm : mg "greatest_of" = some (.ref fa)) (T : Tx mg) (D_ways_behind : DFn P w K mg base "ways_behind" 2 2 f_ways_behind) : DFn P w K mg base "greatest_of" 3 3 f_greatest_of := by
  replace D_ways_behind := D_ways_behind.mono (show 2 ≤ 2 by omega)
  refine dfn_ok (k := 2) Fu hm (Fu.binds (ps := ["program", "told", "block"]) fun _ _ _ _ _ _ us hl => match us, hl with | [_, _, _], _ => rfl) sc_greatest_of rfl (by decide) ?_
  intro cdv A outer s H E hr
  have hu := hu65 hr
  exact ⟨_, ds_cons (d_setLc 3 (d_lc0 (own := [("own", 4)]) (di_seq (d_call D_ways_behind hr (dc_cons (d_var 0) (dc_cons (d_var 2) (dc_nil))))) (fun _ _ _ _ _ => dg_name 4 sc_greatest_of.nd) (fun _ _ _ _ _ => d_ixV 1 (d_var 4))) sc_greatest_of.nd (sw_true rfl rfl rfl (by decide +kernel)))
      (ds_one (d_ret (d_if (d_tinV 3 hu (d_non)) (d_non) (d_bin b_add (d_int) (d_cb c_max T.max bt_max (da_cons (d_bin b_add (d_lst (da_cons (d_int) (da_nil))) (d_var 3)) (da_nil)))))))⟩
def w_greatest_steps_1 : RS :=
  rsSub 1 (rdVar 4) (rdCall f_greatest_of (rcCons (rdVar 0) (rcB 1 (rcCons (rdVar 4) (rcNil)))))
def w_greatest_steps_2 : RS :=
  rsFor (riSeq (rdVar 2)) (rgName 4) w_greatest_steps_1 [4]
abbrev s_greatest_steps : Stmt := top 9
theorem sc_greatest_steps : FnScope ["program", "told", "blocks", "_", "block"] ["program"] (defScope s_greatest_steps) := ⟨rfl, rfl, rfl, by decide +kernel, rfl, by decide +kernel, by decide +kernel⟩
def b_greatest_steps : RS :=
  rsSeq (rsSet 1 (rdBin fRep (rdLst (raCons (rdC .none) (raNil))) (rdCB fLen (raCons (rdIxV 0 (rdC (.int 1))) (raNil)))))
  (rsSeq (rsSet 2 (rdCall f_reached (rcCons (rdVar 0) (rcNil))))
  (rsSeq (rsFor (riSeq (rdVar 2)) (rgName 3) w_greatest_steps_2 [3, 4])
  (rsRet (rdIxV 1 (rdC (.int 0))))))
def f_greatest_steps : FnD := runF 5 b_greatest_steps
theorem ok_greatest_steps {fa : Addr} {fd : FuncData} (Fu : Fun K "greatest_steps" "greatest_steps" s_greatest_steps fa fd) (hm : mg "greatest_steps" = some (.ref fa)) (T : Tx mg) (D_reached : DFn P w K mg base "reached" 3 1 f_reached) (D_greatest_of : DFn P w K mg base "greatest_of" 3 3 f_greatest_of) : DFn P w K mg base "greatest_steps" 4 1 f_greatest_steps := by
  replace D_reached := D_reached.mono (show 3 ≤ 3 by omega)
  replace D_greatest_of := D_greatest_of.mono (show 3 ≤ 3 by omega)
  refine dfn_ok (k := 3) Fu hm (Fu.binds (ps := ["program"]) fun _ _ _ _ _ _ us hl => match us, hl with | [_], _ => rfl) sc_greatest_steps rfl (by decide) ?_
  intro cdv A outer s H E hr
  have hu := hu65 hr
  exact ⟨_, ds_cons (d_set 1 (d_bin b_rep (d_lst (da_cons (d_non) (da_nil))) (d_cb c_len T.len bt_len (da_cons (d_ixV 0 (d_int)) (da_nil)))) sc_greatest_steps.nd)
      (ds_cons (d_set 2 (d_call D_reached hr (dc_cons (d_var 0) (dc_nil))) sc_greatest_steps.nd)
      (ds_cons (d_for [3, 4] (di_seq (d_var 2)) (dg_name 3 sc_greatest_steps.nd)
        (ds_one (d_for [4] (di_seq (d_var 2)) (dg_name 4 sc_greatest_steps.nd)
        (ds_one (d_sub 1 (d_var 4) (d_call D_greatest_of hr (dc_cons (d_var 0) (dc_b 1 (dc_cons (d_var 4) (dc_nil))))))))))
      (ds_one (d_ret (d_ixV 1 (d_int))))))⟩
def w_counts_behind_1 : RS :=
  rsAugS 2 (fun i j => i + j) (rdVar 6) (rdIxV 1 (rdVar 4))
def w_counts_behind_2 : RS :=
  rsSeq (rsSet 5 (rdCall f_ways_behind (rcCons (rdVar 0) (rcCons (rdVar 4) (rcNil)))))
  (rsSeq (rsFor (riSeq (rdVar 5)) (rgName 6) w_counts_behind_1 [6])
  (rsAug 3 (fun i j => i + j) (rdIf (rdTst (rdBin (fEq false) (rdLenV 5) (rdC (.int 0)))) (rdIxV 1 (rdVar 4)) (rdC (.int 0)))))
abbrev s_counts_behind : Stmt := top 10
theorem sc_counts_behind : FnScope ["program", "counts", "later", "ended", "block", "ways", "own"] ["program", "counts"] (defScope s_counts_behind) := ⟨rfl, rfl, rfl, by decide +kernel, rfl, by decide +kernel, by decide +kernel⟩
def b_counts_behind : RS :=
  rsSeq (rsSet 2 (rdBin fRep (rdLst (raCons (rdC (.int 0)) (raNil))) (rdLenV 1)))
  (rsSeq (rsSet 3 (rdC (.int 0)))
  (rsSeq (rsFor (riRng1 (rdLenV 1)) (rgName 4) w_counts_behind_2 [4, 5, 6])
  (rsRet (rdTup (raCons (rdVar 2) (raCons (rdVar 3) (raNil)))))))
def f_counts_behind : FnD := runF 7 b_counts_behind
theorem ok_counts_behind {fa : Addr} {fd : FuncData} (Fu : Fun K "counts_behind" "counts_behind" s_counts_behind fa fd) (hm : mg "counts_behind" = some (.ref fa)) (T : Tx mg) (D_ways_behind : DFn P w K mg base "ways_behind" 2 2 f_ways_behind) : DFn P w K mg base "counts_behind" 3 2 f_counts_behind := by
  replace D_ways_behind := D_ways_behind.mono (show 2 ≤ 2 by omega)
  refine dfn_ok (k := 2) Fu hm (Fu.binds (ps := ["program", "counts"]) fun _ _ _ _ _ _ us hl => match us, hl with | [_, _], _ => rfl) sc_counts_behind rfl (by decide) ?_
  intro cdv A outer s H E hr
  have hu := hu65 hr
  exact ⟨_, ds_cons (d_set 2 (d_bin b_rep (d_lst (da_cons (d_int) (da_nil))) (d_lenV 1 T.len)) sc_counts_behind.nd)
      (ds_cons (d_set 3 (d_int) sc_counts_behind.nd)
      (ds_cons (d_for [4, 5, 6] (di_rng1 (d_lenV 1 T.len) T.range) (dg_name 4 sc_counts_behind.nd)
        (ds_cons (d_set 5 (d_call D_ways_behind hr (dc_cons (d_var 0) (dc_cons (d_var 4) (dc_nil)))) sc_counts_behind.nd)
      (ds_cons (d_for [6] (di_seq (d_var 5)) (dg_name 6 sc_counts_behind.nd)
        (ds_one (d_augS 2 (d_var 6) (d_ixV 1 (d_var 4)))))
      (ds_one (d_augA 3 (d_if (d_tcmp (b_eq hu) (d_lenV 5 T.len) (d_int)) (d_ixV 1 (d_var 4)) (d_int)) sc_counts_behind.nd)))))
      (ds_one (d_ret (d_tup (da_cons (d_var 2) (da_cons (d_var 3) (da_nil))))))))⟩
def w_counts_after_1 : RS :=
  rsSeq (rsAsg (rdCall f_counts_behind (rcCons (rdVar 0) (rcCons (rdVar 2) (rcNil)))) (rgTup 2 (rgCons (rgName 2) (rgCons (rgName 5) (rgNil)))))
  (rsAug 3 (fun i j => i + j) (rdVar 5))
abbrev s_counts_after : Stmt := top 11
theorem sc_counts_after : FnScope ["program", "steps", "counts", "ended", "_", "more"] ["program", "steps"] (defScope s_counts_after) := ⟨rfl, rfl, rfl, by decide +kernel, rfl, by decide +kernel, by decide +kernel⟩
def b_counts_after : RS :=
  rsSeq (rsSet 2 (rdBin fRep (rdLst (raCons (rdC (.int 0)) (raNil))) (rdCB fLen (raCons (rdIxV 0 (rdC (.int 1))) (raNil)))))
  (rsSeq (rsSub 2 (rdC (.int 0)) (rdC (.int 1)))
  (rsSeq (rsSet 3 (rdC (.int 0)))
  (rsSeq (rsFor (riRng1 (rdVar 1)) (rgName 4) w_counts_after_1 [4, 5])
  (rsRet (rdTup (raCons (rdVar 2) (raCons (rdVar 3) (raNil))))))))
def f_counts_after : FnD := runF 6 b_counts_after
theorem ok_counts_after {fa : Addr} {fd : FuncData} (Fu : Fun K "counts_after" "counts_after" s_counts_after fa fd) (hm : mg "counts_after" = some (.ref fa)) (T : Tx mg) (D_counts_behind : DFn P w K mg base "counts_behind" 3 2 f_counts_behind) : DFn P w K mg base "counts_after" 4 2 f_counts_after := by
  replace D_counts_behind := D_counts_behind.mono (show 3 ≤ 3 by omega)
  refine dfn_ok (k := 3) Fu hm (Fu.binds (ps := ["program", "steps"]) fun _ _ _ _ _ _ us hl => match us, hl with | [_, _], _ => rfl) sc_counts_after rfl (by decide) ?_
  intro cdv A outer s H E hr
  have hu := hu65 hr
  exact ⟨_, ds_cons (d_set 2 (d_bin b_rep (d_lst (da_cons (d_int) (da_nil))) (d_cb c_len T.len bt_len (da_cons (d_ixV 0 (d_int)) (da_nil)))) sc_counts_after.nd)
      (ds_cons (d_sub 2 (d_int) (d_int))
      (ds_cons (d_set 3 (d_int) sc_counts_after.nd)
      (ds_cons (d_for [4, 5] (di_rng1 (d_var 1) T.range) (dg_name 4 sc_counts_after.nd)
        (ds_cons (d_asg (d_call D_counts_behind hr (dc_cons (d_var 0) (dc_cons (d_var 2) (dc_nil)))) (dg_tup (dgs_cons (dg_name 2 sc_counts_after.nd) (dgs_cons (dg_name 5 sc_counts_after.nd) (dgs_nil)))))
      (ds_one (d_augA 3 (d_var 5) sc_counts_after.nd))))
      (ds_one (d_ret (d_tup (da_cons (d_var 2) (da_cons (d_var 3) (da_nil)))))))))⟩
abbrev s_rows_within : Stmt := top 12
theorem sc_rows_within : FnScope ["program", "steps"] ["program", "steps"] (defScope s_rows_within) := ⟨rfl, rfl, rfl, by decide +kernel, rfl, by decide +kernel, by decide +kernel⟩
def b_rows_within : RS :=
  rsRet (rdBin fIx (rdCall f_counts_after (rcCons (rdVar 0) (rcCons (rdVar 1) (rcNil)))) (rdC (.int 1)))
def f_rows_within : FnD := runF 2 b_rows_within
theorem ok_rows_within {fa : Addr} {fd : FuncData} (Fu : Fun K "rows_within" "rows_within" s_rows_within fa fd) (hm : mg "rows_within" = some (.ref fa)) (T : Tx mg) (D_counts_after : DFn P w K mg base "counts_after" 4 2 f_counts_after) : DFn P w K mg base "rows_within" 5 2 f_rows_within := by
  replace D_counts_after := D_counts_after.mono (show 4 ≤ 4 by omega)
  refine dfn_ok (k := 4) Fu hm (Fu.binds (ps := ["program", "steps"]) fun _ _ _ _ _ _ us hl => match us, hl with | [_, _], _ => rfl) sc_rows_within rfl (by decide) ?_
  intro cdv A outer s H E hr
  have hu := hu65 hr
  exact ⟨_, ds_one (d_ret (d_ix (d_call D_counts_after hr (dc_cons (d_var 0) (dc_cons (d_var 1) (dc_nil)))) (d_int)))⟩
abbrev s_rows_open : Stmt := top 13
theorem sc_rows_open : FnScope ["program", "steps"] ["program", "steps"] (defScope s_rows_open) := ⟨rfl, rfl, rfl, by decide +kernel, rfl, by decide +kernel, by decide +kernel⟩
def b_rows_open : RS :=
  rsRet (rdCB fSum (raCons (rdBin fIx (rdCall f_counts_after (rcCons (rdVar 0) (rcCons (rdVar 1) (rcNil)))) (rdC (.int 0))) (raNil)))
def f_rows_open : FnD := runF 2 b_rows_open
theorem ok_rows_open {fa : Addr} {fd : FuncData} (Fu : Fun K "rows_open" "rows_open" s_rows_open fa fd) (hm : mg "rows_open" = some (.ref fa)) (T : Tx mg) (D_counts_after : DFn P w K mg base "counts_after" 4 2 f_counts_after) : DFn P w K mg base "rows_open" 5 2 f_rows_open := by
  replace D_counts_after := D_counts_after.mono (show 4 ≤ 4 by omega)
  refine dfn_ok (k := 4) Fu hm (Fu.binds (ps := ["program", "steps"]) fun _ _ _ _ _ _ us hl => match us, hl with | [_, _], _ => rfl) sc_rows_open rfl (by decide) ?_
  intro cdv A outer s H E hr
  have hu := hu65 hr
  exact ⟨_, ds_one (d_ret (d_cb c_sum T.sum bt_sum (da_cons (d_ix (d_call D_counts_after hr (dc_cons (d_var 0) (dc_cons (d_var 1) (dc_nil)))) (d_int)) (da_nil))))⟩
def w_steps_along_1 : RS :=
  rsSeq (rsSet 6 (rdCall f_ways_behind (rcCons (rdVar 0) (rcCons (rdVar 3) (rcNil)))))
  (rsSeq (rsIf (rdTst (rdBin (fEq false) (rdLenV 6) (rdC (.int 0))))
    (rsRet (rdTup (raCons (rdC (.str "ended")) (raCons (rdBin fAdd (rdVar 5) (rdC (.int 1))) (raNil)))))
    (rsNil))
  (rsSeq (rsIf (rtAnd (rdTst (rdBin (fEq false) (rdLenV 6) (rdC (.int 2)))) (rdTst (rdBin (fEq false) (rdVar 4) (rdLenV 1))))
    (rsRet (rdTup (raCons (rdC (.str "asks")) (raCons (rdVar 5) (raNil)))))
    (rsNil))
  (rsIf (rdTst (rdBin (fEq false) (rdLenV 6) (rdC (.int 2))))
    (rsSeq (rsSet 3 (rdIxV 6 (rdBin fSub (rdC (.int 1)) (rdIxV 1 (rdVar 4)))))
  (rsAug 4 (fun i j => i + j) (rdC (.int 1))))
    (rsSet 3 (rdIxV 6 (rdC (.int 0)))))))
abbrev s_steps_along : Stmt := top 14
theorem sc_steps_along : FnScope ["program", "row", "most", "block", "asked", "k", "ways"] ["program", "row", "most"] (defScope s_steps_along) := ⟨rfl, rfl, rfl, by decide +kernel, rfl, by decide +kernel, by decide +kernel⟩
def b_steps_along : RS :=
  rsSeq (rsSet 3 (rdC (.int 0)))
  (rsSeq (rsSet 4 (rdC (.int 0)))
  (rsSeq (rsFor (riRng1 (rdVar 2)) (rgName 5) w_steps_along_1 [5, 6])
  (rsRet (rdTup (raCons (rdC (.str "open")) (raCons (rdVar 2) (raNil)))))))
def f_steps_along : FnD := runF 7 b_steps_along
theorem ok_steps_along {fa : Addr} {fd : FuncData} (Fu : Fun K "steps_along" "steps_along" s_steps_along fa fd) (hm : mg "steps_along" = some (.ref fa)) (T : Tx mg) (D_ways_behind : DFn P w K mg base "ways_behind" 2 2 f_ways_behind) : DFn P w K mg base "steps_along" 3 3 f_steps_along := by
  replace D_ways_behind := D_ways_behind.mono (show 2 ≤ 2 by omega)
  refine dfn_ok (k := 2) Fu hm (Fu.binds (ps := ["program", "row", "most"]) fun _ _ _ _ _ _ us hl => match us, hl with | [_, _, _], _ => rfl) sc_steps_along rfl (by decide) ?_
  intro cdv A outer s H E hr
  have hu := hu65 hr
  exact ⟨_, ds_cons (d_set 3 (d_int) sc_steps_along.nd)
      (ds_cons (d_set 4 (d_int) sc_steps_along.nd)
      (ds_cons (d_for [5, 6] (di_rng1 (d_var 2) T.range) (dg_name 5 sc_steps_along.nd)
        (ds_cons (d_set 6 (d_call D_ways_behind hr (dc_cons (d_var 0) (dc_cons (d_var 3) (dc_nil)))) sc_steps_along.nd)
      (ds_cons (d_ifS (d_tcmp (b_eq hu) (d_lenV 6 T.len) (d_int))
        (ds_one (d_ret (d_tup (da_cons (d_str) (da_cons (d_bin b_add (d_var 5) (d_int)) (da_nil))))))
        (ds_nil))
      (ds_cons (d_ifS (d_tw (d_tand (d_tcmp (b_eq hu) (d_lenV 6 T.len) (d_int)) (d_tand1 (d_tcmp (b_eq hu) (d_var 4) (d_lenV 1 T.len)))))
        (ds_one (d_ret (d_tup (da_cons (d_str) (da_cons (d_var 5) (da_nil))))))
        (ds_nil))
      (ds_one (d_ifS (d_tcmp (b_eq hu) (d_lenV 6 T.len) (d_int))
        (ds_cons (d_set 3 (d_ixV 6 (d_bin b_sub (d_int) (d_ixV 1 (d_var 4)))) sc_steps_along.nd)
      (ds_one (d_augA 4 (d_int) sc_steps_along.nd)))
        (ds_one (d_set 3 (d_ixV 6 (d_int)) sc_steps_along.nd))))))))
      (ds_one (d_ret (d_tup (da_cons (d_str) (da_cons (d_var 2) (da_nil))))))))⟩
def e_Ldraws_1 : RE :=
  rdCB fInt (raCons (rdVar 8) (raNil))
def w_Ldraws_2 : RS :=
  rsSeq (rsSet 6 (rdBin fMod (rdVar 5) (rdLenV 2)))
  (rsIf (rtAnd (rdTst (rdBin fGe (rdIxV 2 (rdVar 6)) (rdBin fPow (rdC (.int 10)) (rdC (.int 18))))) (rdTst (rdBin fGt (rdIxV 3 (rdVar 6)) (rdC (.int 0)))))
    (rsSeq (rsExpr (rdApp 4 (rdBin fMod (rdCB fInt (raCons (rdIxV 3 (rdVar 6)) (raNil))) (rdC (.int 1000)))))
  (rsSub 3 (rdVar 6) (rdBin fDiv (rdIxV 3 (rdVar 6)) (rdC (.int 1000)))))
    (rsSeq (rsSet 7 (rdBin fMod (rdCB fInt (raCons (rdBin fAdd (rdBin fAdd (rdBin fMul (rdIxV 2 (rdVar 6)) (rdC (.int 48271))) (rdBin fMul (rdVar 5) (rdC (.int 69621)))) (rdC (.int 11))) (raNil))) (rdC (.int 2147483647))))
  (rsExpr (rdApp 4 (rdBin fMod (rdCB fInt (raCons (rdBin fAdd (rdBin fAdd (rdBin fMul (rdVar 7) (rdVar 7)) (rdBin fMul (rdC (.int 3)) (rdVar 7))) (rdVar 5)) (raNil))) (rdC (.int 1000003)))))))
abbrev s_Ldraws : Stmt := top 16
theorem sc_Ldraws : FnScope ["script", "many", "cells", "rest", "draws", "k", "at", "once", "cell"] ["script", "many"] (defScope s_Ldraws) := ⟨rfl, rfl, rfl, by decide +kernel, rfl, by decide +kernel, by decide +kernel⟩
def b_Ldraws : RS :=
  rsSeq (rsSet 2 (rdLc (riFro 0) (rgName 8) rtYes (e_Ldraws_1) [8]))
  (rsSeq (rsIf (rdTst (rdBin (fEq false) (rdLenV 2) (rdC (.int 0))))
    (rsExpr (rdApp 2 (rdC (.int 0))))
    (rsNil))
  (rsSeq (rsSet 3 (rdCB fList (raCons (rdVar 2) (raNil))))
  (rsSeq (rsSet 4 (rdLst (raNil)))
  (rsSeq (rsFor (riRng1 (rdVar 1)) (rgName 5) w_Ldraws_2 [5, 6, 7])
  (rsSeq (rsExpr (rdRev 4))
  (rsRet (rdMv 4)))))))
def f_Ldraws : FnD := runF 9 b_Ldraws
theorem ok_Ldraws {fa : Addr} {fd : FuncData} (Fu : Fun K "_law_draws" "_law_draws" s_Ldraws fa fd) (hm : mg "_law_draws" = some (.ref fa)) (T : Tx mg)  : DFn P w K mg base "_law_draws" 1 2 f_Ldraws := by
  refine dfn_ok (k := 0) Fu hm (Fu.binds (ps := ["script", "many"]) fun _ _ _ _ _ _ us hl => match us, hl with | [_, _], _ => rfl) sc_Ldraws rfl (by decide) ?_
  intro cdv A outer s H E hr
  have hu := hu65 hr
  exact ⟨_, ds_cons (d_setLc 2 (d_lc0 (own := [("cell", 8)]) (di_fro 0) (fun _ _ _ _ _ => dg_name 8 sc_Ldraws.nd) (fun _ _ _ _ _ => d_ct c_int T.int bt_int (da_cons (d_var 8) (da_nil)))) sc_Ldraws.nd (sw_true rfl rfl rfl (by decide +kernel)))
      (ds_cons (d_ifS (d_tcmp (b_eq hu) (d_lenV 2 T.len) (d_int))
        (ds_one (d_expr (d_app 2 (d_int))))
        (ds_nil))
      (ds_cons (d_set 3 (d_ct c_list T.list bt_list (da_cons (d_var 2) (da_nil))) sc_Ldraws.nd)
      (ds_cons (d_set 4 (d_lst (da_nil)) sc_Ldraws.nd)
      (ds_cons (d_for [5, 6, 7] (di_rng1 (d_var 1) T.range) (dg_name 5 sc_Ldraws.nd)
        (ds_cons (d_set 6 (d_bin b_mod (d_var 5) (d_lenV 2 T.len)) sc_Ldraws.nd)
      (ds_one (d_ifS (d_tw (d_tand (d_tcmp (b_ge) (d_ixV 2 (d_var 6)) (d_bin b_pow (d_int) (d_int))) (d_tand1 (d_tcmp (b_gt) (d_ixV 3 (d_var 6)) (d_int)))))
        (ds_cons (d_expr (d_app 4 (d_bin b_mod (d_ct c_int T.int bt_int (da_cons (d_ixV 3 (d_var 6)) (da_nil))) (d_int))))
      (ds_one (d_sub 3 (d_var 6) (d_bin b_fdiv (d_ixV 3 (d_var 6)) (d_int)))))
        (ds_cons (d_set 7 (d_bin b_mod (d_ct c_int T.int bt_int (da_cons (d_bin b_add (d_bin b_add (d_bin b_mul (d_ixV 2 (d_var 6)) (d_int)) (d_bin b_mul (d_var 5) (d_int))) (d_int)) (da_nil))) (d_int)) sc_Ldraws.nd)
      (ds_one (d_expr (d_app 4 (d_bin b_mod (d_ct c_int T.int bt_int (da_cons (d_bin b_add (d_bin b_add (d_bin b_mul (d_var 7) (d_var 7)) (d_bin b_mul (d_int) (d_var 7))) (d_var 5)) (da_nil))) (d_int))))))))))
      (ds_cons (d_expr (d_rev 4))
      (ds_one (d_ret (d_mv 4))))))))⟩
abbrev s_Ltake : Stmt := top 17
theorem sc_Ltake : FnScope ["draws", "many"] ["draws", "many"] (defScope s_Ltake) := ⟨rfl, rfl, rfl, by decide +kernel, rfl, by decide +kernel, by decide +kernel⟩
def b_Ltake : RS :=
  rsSeq (rsIf (rdTst (rdBin (fEq false) (rdLenV 0) (rdC (.int 0))))
    (rsRet (rdC (.int 0)))
    (rsNil))
  (rsRet (rdBin fMod (rdCB fInt (raCons (rdPop 0) (raNil))) (rdVar 1)))
def f_Ltake : FnD := runF 2 b_Ltake
theorem ok_Ltake {fa : Addr} {fd : FuncData} (Fu : Fun K "_law_take" "_law_take" s_Ltake fa fd) (hm : mg "_law_take" = some (.ref fa)) (T : Tx mg)  : DFn P w K mg base "_law_take" 1 2 f_Ltake := by
  refine dfn_ok (k := 0) Fu hm (Fu.binds (ps := ["draws", "many"]) fun _ _ _ _ _ _ us hl => match us, hl with | [_, _], _ => rfl) sc_Ltake rfl (by decide) ?_
  intro cdv A outer s H E hr
  have hu := hu65 hr
  exact ⟨_, ds_cons (d_ifS (d_tcmp (b_eq hu) (d_lenV 0 T.len) (d_int))
        (ds_one (d_ret (d_int)))
        (ds_nil))
      (ds_one (d_ret (d_bin b_mod (d_ct c_int T.int bt_int (da_cons (d_pop 0) (da_nil))) (d_var 1))))⟩
abbrev s_Lcell : Stmt := top 18
theorem sc_Lcell : FnScope ["script", "cell"] ["script"] (defScope s_Lcell) := ⟨rfl, rfl, rfl, by decide +kernel, rfl, by decide +kernel, by decide +kernel⟩
def b_Lcell : RS :=
  rsSeq (rsIf (rdTst (rdBin (fEq false) (rdLenV 0) (rdC (.int 0))))
    (rsRet (rdC (.int 0)))
    (rsNil))
  (rsSeq (rsSet 1 (rdCB fInt (raCons (rdIxV 0 (rdBin fMod (rdBin fMod (rdCB fInt (raCons (rdBin fSub (rdLenV 0) (rdC (.int 1))) (raNil))) (rdC (.int 7))) (rdLenV 0))) (raNil))))
  (rsSeq (rsIf (rdTst (rdBin fLt (rdVar 1) (rdC (.int 0))))
    (rsRet (rdNeg (rdBin fMod (rdCB fInt (raCons (rdNeg (rdVar 1)) (raNil))) (rdBin fPow (rdC (.int 10)) (rdC (.int 60))))))
    (rsNil))
  (rsRet (rdBin fMod (rdCB fInt (raCons (rdVar 1) (raNil))) (rdBin fPow (rdC (.int 10)) (rdC (.int 60)))))))
def f_Lcell : FnD := runF 2 b_Lcell
theorem ok_Lcell {fa : Addr} {fd : FuncData} (Fu : Fun K "_law_cell" "_law_cell" s_Lcell fa fd) (hm : mg "_law_cell" = some (.ref fa)) (T : Tx mg)  : DFn P w K mg base "_law_cell" 1 1 f_Lcell := by
  refine dfn_ok (k := 0) Fu hm (Fu.binds (ps := ["script"]) fun _ _ _ _ _ _ us hl => match us, hl with | [_], _ => rfl) sc_Lcell rfl (by decide) ?_
  intro cdv A outer s H E hr
  have hu := hu65 hr
  exact ⟨_, ds_cons (d_ifS (d_tcmp (b_eq hu) (d_lenV 0 T.len) (d_int))
        (ds_one (d_ret (d_int)))
        (ds_nil))
      (ds_cons (d_set 1 (d_ct c_int T.int bt_int (da_cons (d_ixV 0 (d_bin b_mod (d_bin b_mod (d_ct c_int T.int bt_int (da_cons (d_bin b_sub (d_lenV 0 T.len) (d_int)) (da_nil))) (d_int)) (d_lenV 0 T.len))) (da_nil))) sc_Lcell.nd)
      (ds_cons (d_ifS (d_tcmp (b_lt) (d_var 1) (d_int))
        (ds_one (d_ret (d_neg (d_bin b_mod (d_ct c_int T.int bt_int (da_cons (d_neg (d_var 1)) (da_nil))) (d_bin b_pow (d_int) (d_int))))))
        (ds_nil))
      (ds_one (d_ret (d_bin b_mod (d_ct c_int T.int bt_int (da_cons (d_var 1) (da_nil))) (d_bin b_pow (d_int) (d_int)))))))⟩
def e_Lthing_1 : RE :=
  rdCall f_Ltake (rcB 0 (rcCons (rdC (.int 3)) (rcNil)))
def w_Lthing_2 : RS :=
  rsIf (rdTst (rdBin (fEq false) (rdCall f_Ltake (rcB 0 (rcCons (rdC (.int 4)) (rcNil)))) (rdC (.int 0))))
    (rsExpr (rdApp 3 (rdCB fTuple (raCons (rdLc (riRng1 (rdCall f_Ltake (rcB 0 (rcCons (rdC (.int 3)) (rcNil))))) (rgName 5) rtYes (e_Lthing_1) [5]) (raNil)))))
    (rsExpr (rdApp 3 (rdBin fSub (rdCall f_Ltake (rcB 0 (rcCons (rdC (.int 4)) (rcNil)))) (rdC (.int 1)))))
abbrev s_Lthing : Stmt := top 19
theorem sc_Lthing : FnScope ["draws", "cell", "pick", "row", "k", "j"] ["draws", "cell"] (defScope s_Lthing) := ⟨rfl, rfl, rfl, by decide +kernel, rfl, by decide +kernel, by decide +kernel⟩
def b_Lthing : RS :=
  rsSeq (rsSet 2 (rdCall f_Ltake (rcB 0 (rcCons (rdC (.int 12)) (rcNil)))))
  (rsSeq (rsIf (rdTst (rdBin (fEq false) (rdVar 2) (rdC (.int 11))))
    (rsRet (rdVar 1))
    (rsNil))
  (rsSeq (rsIf (rdTst (rdBin fLt (rdVar 2) (rdC (.int 6))))
    (rsRet (rdBin fSub (rdCall f_Ltake (rcB 0 (rcCons (rdC (.int 4)) (rcNil)))) (rdC (.int 1))))
    (rsNil))
  (rsSeq (rsSet 3 (rdLst (raNil)))
  (rsSeq (rsFor (riRng1 (rdCall f_Ltake (rcB 0 (rcCons (rdC (.int 4)) (rcNil))))) (rgName 4) w_Lthing_2 [4, 5])
  (rsRet (rdCB fTuple (raCons (rdVar 3) (raNil))))))))
def f_Lthing : FnD := runF 6 b_Lthing
theorem ok_Lthing {fa : Addr} {fd : FuncData} (Fu : Fun K "_law_thing" "_law_thing" s_Lthing fa fd) (hm : mg "_law_thing" = some (.ref fa)) (T : Tx mg) (D_Ltake : DFn P w K mg base "_law_take" 1 2 f_Ltake) : DFn P w K mg base "_law_thing" 2 2 f_Lthing := by
  replace D_Ltake := D_Ltake.mono (show 1 ≤ 1 by omega)
  refine dfn_ok (k := 1) Fu hm (Fu.binds (ps := ["draws", "cell"]) fun _ _ _ _ _ _ us hl => match us, hl with | [_, _], _ => rfl) sc_Lthing rfl (by decide) ?_
  intro cdv A outer s H E hr
  have hu := hu65 hr
  exact ⟨_, ds_cons (d_set 2 (d_call D_Ltake hr (dc_b 0 (dc_cons (d_int) (dc_nil)))) sc_Lthing.nd)
      (ds_cons (d_ifS (d_tcmp (b_eq hu) (d_var 2) (d_int))
        (ds_one (d_ret (d_var 1)))
        (ds_nil))
      (ds_cons (d_ifS (d_tcmp (b_lt) (d_var 2) (d_int))
        (ds_one (d_ret (d_bin b_sub (d_call D_Ltake hr (dc_b 0 (dc_cons (d_int) (dc_nil)))) (d_int))))
        (ds_nil))
      (ds_cons (d_set 3 (d_lst (da_nil)) sc_Lthing.nd)
      (ds_cons (d_for [4, 5] (di_rng1 (d_call D_Ltake hr (dc_b 0 (dc_cons (d_int) (dc_nil)))) T.range) (dg_name 4 sc_Lthing.nd)
        (ds_one (d_ifS (d_tcmp (b_eq hu) (d_call D_Ltake hr (dc_b 0 (dc_cons (d_int) (dc_nil)))) (d_int))
        (ds_one (d_expr (d_app 3 (d_ct c_tuple T.tup bt_tuple (da_cons (d_lcE (d_lc0 (own := [("j", 5)]) (di_rng1 (d_call D_Ltake hr (dc_b 0 (dc_cons (d_int) (dc_nil)))) T.range) (fun _ _ _ _ _ => dg_name 5 sc_Lthing.nd) (fun _ _ _ _ _ => d_call D_Ltake hr (dc_b 0 (dc_cons (d_int) (dc_nil))))) sc_Lthing.nd) (da_nil))))))
        (ds_one (d_expr (d_app 3 (d_bin b_sub (d_call D_Ltake hr (dc_b 0 (dc_cons (d_int) (dc_nil)))) (d_int))))))))
      (ds_one (d_ret (d_ct c_tuple T.tup bt_tuple (da_cons (d_var 3) (da_nil)))))))))⟩
abbrev s_Lsimple : Stmt := top 20
theorem sc_Lsimple : FnScope ["draws", "falls", "cell"] ["draws", "falls", "cell"] (defScope s_Lsimple) := ⟨rfl, rfl, rfl, by decide +kernel, rfl, by decide +kernel, by decide +kernel⟩
def b_Lsimple : RS :=
  rsSeq (rsIf (rtAnd (rdTst (rdBin fGt (rdVar 1) (rdC (.int 0)))) (rdTst (rdBin fGt (rdCall f_Ltake (rcB 0 (rcCons (rdC (.int 3)) (rcNil)))) (rdC (.int 0)))))
    (rsRet (rdTup (raCons (rdC (.str "of")) (raCons (rdCall f_Ltake (rcB 0 (rcCons (rdVar 1) (rcNil)))) (raNil)))))
    (rsNil))
  (rsRet (rdTup (raCons (rdC (.str "know")) (raCons (rdCall f_Lthing (rcB 0 (rcCons (rdVar 2) (rcNil)))) (raNil)))))
def f_Lsimple : FnD := runF 3 b_Lsimple
theorem ok_Lsimple {fa : Addr} {fd : FuncData} (Fu : Fun K "_law_simple" "_law_simple" s_Lsimple fa fd) (hm : mg "_law_simple" = some (.ref fa)) (T : Tx mg) (D_Lthing : DFn P w K mg base "_law_thing" 2 2 f_Lthing) (D_Ltake : DFn P w K mg base "_law_take" 1 2 f_Ltake) : DFn P w K mg base "_law_simple" 3 3 f_Lsimple := by
  replace D_Lthing := D_Lthing.mono (show 2 ≤ 2 by omega)
  replace D_Ltake := D_Ltake.mono (show 1 ≤ 2 by omega)
  refine dfn_ok (k := 2) Fu hm (Fu.binds (ps := ["draws", "falls", "cell"]) fun _ _ _ _ _ _ us hl => match us, hl with | [_, _, _], _ => rfl) sc_Lsimple rfl (by decide) ?_
  intro cdv A outer s H E hr
  have hu := hu65 hr
  exact ⟨_, ds_cons (d_ifS (d_tw (d_tand (d_tcmp (b_gt) (d_var 1) (d_int)) (d_tand1 (d_tcmp (b_gt) (d_call D_Ltake hr (dc_b 0 (dc_cons (d_int) (dc_nil)))) (d_int)))))
        (ds_one (d_ret (d_tup (da_cons (d_str) (da_cons (d_call D_Ltake hr (dc_b 0 (dc_cons (d_var 1) (dc_nil)))) (da_nil))))))
        (ds_nil))
      (ds_one (d_ret (d_tup (da_cons (d_str) (da_cons (d_call D_Lthing hr (dc_b 0 (dc_cons (d_var 2) (dc_nil)))) (da_nil))))))⟩
abbrev s_Lfall : Stmt := top 21
theorem sc_Lfall : FnScope ["draws", "falls", "many", "cell", "pick", "one", "heap", "name"] ["draws", "falls", "many", "cell"] (defScope s_Lfall) := ⟨rfl, rfl, rfl, by decide +kernel, rfl, by decide +kernel, by decide +kernel⟩
def b_Lfall : RS :=
  rsSeq (rsSet 4 (rdCall f_Ltake (rcB 0 (rcCons (rdC (.int 16)) (rcNil)))))
  (rsSeq (rsSet 5 (rdCall f_Lsimple (rcB 0 (rcCons (rdVar 1) (rcCons (rdVar 3) (rcNil))))))
  (rsSeq (rsIf (rdTst (rdBin fLt (rdVar 4) (rdC (.int 4))))
    (rsRet (rdVar 5))
    (rsNil))
  (rsSeq (rsIf (rtAnd (rdTst (rdBin fLt (rdVar 4) (rdC (.int 7)))) (rdTst (rdBin fGt (rdVar 2) (rdVar 1))))
    (rsSeq (rsSet 6 (rdTup (raCons (rdC (.str "of")) (raCons (rdBin fAdd (rdVar 1) (rdCall f_Ltake (rcB 0 (rcCons (rdBin fSub (rdVar 2) (rdVar 1)) (rcNil))))) (raNil)))))
  (rsRet (rdBin fIx (rdTup (raCons (rdTup (raCons (rdC (.str "first")) (raCons (rdVar 6) (raNil)))) (raCons (rdTup (raCons (rdC (.str "some")) (raCons (rdVar 6) (raNil)))) (raCons (rdTup (raCons (rdC (.str "length")) (raCons (rdVar 6) (raNil)))) (raNil))))) (rdBin fSub (rdVar 4) (rdC (.int 4))))))
    (rsNil))
  (rsSeq (rsIf (rdTst (rdBin fLt (rdVar 4) (rdC (.int 9))))
    (rsRet (rdTup (raCons (rdBin fIx (rdTup (raCons (rdC (.str "first")) (raCons (rdC (.str "rest")) (raCons (rdC (.str "length")) (raCons (rdC (.str "some")) (raCons (rdC (.str "listed")) (raNil))))))) (rdCall f_Ltake (rcB 0 (rcCons (rdC (.int 5)) (rcNil))))) (raCons (rdVar 5) (raNil)))))
    (rsNil))
  (rsSeq (rsIf (rdTst (rdBin (fEq false) (rdVar 4) (rdC (.int 9))))
    (rsRet (rdTup (raCons (rdC (.str "choose")) (raCons (rdTup (raCons (rdC (.str "some")) (raCons (rdVar 5) (raNil)))) (raCons (rdCall f_Lsimple (rcB 0 (rcCons (rdVar 1) (rcCons (rdVar 3) (rcNil))))) (raCons (rdTup (raCons (rdC (.str "know")) (raCons (rdCall f_Lthing (rcB 0 (rcCons (rdVar 3) (rcNil)))) (raNil)))) (raNil)))))))
    (rsNil))
  (rsSeq (rsIf (rdTst (rdBin (fEq false) (rdVar 4) (rdC (.int 10))))
    (rsRet (rdTup (raCons (rdC (.str "item")) (raCons (rdTup (raCons (rdC (.str "know")) (raCons (rdCall f_Ltake (rcB 0 (rcCons (rdC (.int 3)) (rcNil)))) (raNil)))) (raCons (rdVar 5) (raNil))))))
    (rsNil))
  (rsSeq (rsSet 7 (rdBin fIx (rdTup (raCons (rdC (.str "same")) (raCons (rdC (.str "less")) (raCons (rdC (.str "plus")) (raCons (rdC (.str "minus")) (raCons (rdC (.str "place")) (raCons (rdC (.str "item")) (raNil)))))))) (rdCall f_Ltake (rcB 0 (rcCons (rdC (.int 6)) (rcNil))))))
  (rsRet (rdTup (raCons (rdVar 7) (raCons (rdVar 5) (raCons (rdCall f_Lsimple (rcB 0 (rcCons (rdVar 1) (rcCons (rdVar 3) (rcNil))))) (raNil)))))))))))))
def f_Lfall : FnD := runF 8 b_Lfall
theorem ok_Lfall {fa : Addr} {fd : FuncData} (Fu : Fun K "_law_fall" "_law_fall" s_Lfall fa fd) (hm : mg "_law_fall" = some (.ref fa)) (T : Tx mg) (D_Ltake : DFn P w K mg base "_law_take" 1 2 f_Ltake) (D_Lsimple : DFn P w K mg base "_law_simple" 3 3 f_Lsimple) (D_Lthing : DFn P w K mg base "_law_thing" 2 2 f_Lthing) : DFn P w K mg base "_law_fall" 4 4 f_Lfall := by
  replace D_Ltake := D_Ltake.mono (show 1 ≤ 3 by omega)
  replace D_Lsimple := D_Lsimple.mono (show 3 ≤ 3 by omega)
  replace D_Lthing := D_Lthing.mono (show 2 ≤ 3 by omega)
  refine dfn_ok (k := 3) Fu hm (Fu.binds (ps := ["draws", "falls", "many", "cell"]) fun _ _ _ _ _ _ us hl => match us, hl with | [_, _, _, _], _ => rfl) sc_Lfall rfl (by decide) ?_
  intro cdv A outer s H E hr
  have hu := hu65 hr
  exact ⟨_, ds_cons (d_set 4 (d_call D_Ltake hr (dc_b 0 (dc_cons (d_int) (dc_nil)))) sc_Lfall.nd)
      (ds_cons (d_set 5 (d_call D_Lsimple hr (dc_b 0 (dc_cons (d_var 1) (dc_cons (d_var 3) (dc_nil))))) sc_Lfall.nd)
      (ds_cons (d_ifS (d_tcmp (b_lt) (d_var 4) (d_int))
        (ds_one (d_ret (d_var 5)))
        (ds_nil))
      (ds_cons (d_ifS (d_tw (d_tand (d_tcmp (b_lt) (d_var 4) (d_int)) (d_tand1 (d_tcmp (b_gt) (d_var 2) (d_var 1)))))
        (ds_cons (d_set 6 (d_tup (da_cons (d_str) (da_cons (d_bin b_add (d_var 1) (d_call D_Ltake hr (dc_b 0 (dc_cons (d_bin b_sub (d_var 2) (d_var 1)) (dc_nil))))) (da_nil)))) sc_Lfall.nd)
      (ds_one (d_ret (d_ix (d_tup (da_cons (d_tup (da_cons (d_str) (da_cons (d_var 6) (da_nil)))) (da_cons (d_tup (da_cons (d_str) (da_cons (d_var 6) (da_nil)))) (da_cons (d_tup (da_cons (d_str) (da_cons (d_var 6) (da_nil)))) (da_nil))))) (d_bin b_sub (d_var 4) (d_int))))))
        (ds_nil))
      (ds_cons (d_ifS (d_tcmp (b_lt) (d_var 4) (d_int))
        (ds_one (d_ret (d_tup (da_cons (d_ix (d_tup (da_cons (d_str) (da_cons (d_str) (da_cons (d_str) (da_cons (d_str) (da_cons (d_str) (da_nil))))))) (d_call D_Ltake hr (dc_b 0 (dc_cons (d_int) (dc_nil))))) (da_cons (d_var 5) (da_nil))))))
        (ds_nil))
      (ds_cons (d_ifS (d_tcmp (b_eq hu) (d_var 4) (d_int))
        (ds_one (d_ret (d_tup (da_cons (d_str) (da_cons (d_tup (da_cons (d_str) (da_cons (d_var 5) (da_nil)))) (da_cons (d_call D_Lsimple hr (dc_b 0 (dc_cons (d_var 1) (dc_cons (d_var 3) (dc_nil))))) (da_cons (d_tup (da_cons (d_str) (da_cons (d_call D_Lthing hr (dc_b 0 (dc_cons (d_var 3) (dc_nil)))) (da_nil)))) (da_nil))))))))
        (ds_nil))
      (ds_cons (d_ifS (d_tcmp (b_eq hu) (d_var 4) (d_int))
        (ds_one (d_ret (d_tup (da_cons (d_str) (da_cons (d_tup (da_cons (d_str) (da_cons (d_call D_Ltake hr (dc_b 0 (dc_cons (d_int) (dc_nil)))) (da_nil)))) (da_cons (d_var 5) (da_nil)))))))
        (ds_nil))
      (ds_cons (d_set 7 (d_ix (d_tup (da_cons (d_str) (da_cons (d_str) (da_cons (d_str) (da_cons (d_str) (da_cons (d_str) (da_cons (d_str) (da_nil)))))))) (d_call D_Ltake hr (dc_b 0 (dc_cons (d_int) (dc_nil))))) sc_Lfall.nd)
      (ds_one (d_ret (d_tup (da_cons (d_var 7) (da_cons (d_var 5) (da_cons (d_call D_Lsimple hr (dc_b 0 (dc_cons (d_var 1) (dc_cons (d_var 3) (dc_nil))))) (da_nil))))))))))))))⟩
abbrev s_Lbuild : Stmt := top 22
theorem sc_Lbuild : FnScope ["draws", "falls", "many", "cell", "heap", "pick"] ["draws", "falls", "many", "cell"] (defScope s_Lbuild) := ⟨rfl, rfl, rfl, by decide +kernel, rfl, by decide +kernel, by decide +kernel⟩
def b_Lbuild : RS :=
  rsSeq (rsSet 4 (rdTup (raCons (rdC (.str "of")) (raCons (rdBin fAdd (rdVar 1) (rdCall f_Ltake (rcB 0 (rcCons (rdBin fSub (rdVar 2) (rdVar 1)) (rcNil))))) (raNil)))))
  (rsSeq (rsSet 5 (rdCall f_Ltake (rcB 0 (rcCons (rdC (.int 6)) (rcNil)))))
  (rsSeq (rsIf (rdTst (rdBin fLt (rdVar 5) (rdC (.int 2))))
    (rsRet (rdTup (raCons (rdC (.str "join")) (raCons (rdCall f_Lfall (rcB 0 (rcCons (rdVar 1) (rcCons (rdVar 2) (rcCons (rdVar 3) (rcNil)))))) (raCons (rdVar 4) (raNil))))))
    (rsNil))
  (rsSeq (rsIf (rdTst (rdBin (fEq false) (rdVar 5) (rdC (.int 2))))
    (rsRet (rdTup (raCons (rdC (.str "more")) (raCons (rdCall f_Lfall (rcB 0 (rcCons (rdVar 1) (rcCons (rdVar 2) (rcCons (rdVar 3) (rcNil)))))) (raCons (rdVar 4) (raNil))))))
    (rsNil))
  (rsSeq (rsIf (rdTst (rdBin (fEq false) (rdVar 5) (rdC (.int 3))))
    (rsRet (rdTup (raCons (rdC (.str "rest")) (raCons (rdVar 4) (raNil)))))
    (rsNil))
  (rsSeq (rsIf (rdTst (rdBin (fEq false) (rdVar 5) (rdC (.int 4))))
    (rsRet (rdTup (raCons (rdC (.str "put")) (raCons (rdTup (raCons (rdC (.str "know")) (raCons (rdCall f_Ltake (rcB 0 (rcCons (rdC (.int 3)) (rcNil)))) (raNil)))) (raCons (rdVar 4) (raCons (rdCall f_Lfall (rcB 0 (rcCons (rdVar 1) (rcCons (rdVar 2) (rcCons (rdVar 3) (rcNil)))))) (raNil)))))))
    (rsNil))
  (rsRet (rdVar 4)))))))
def f_Lbuild : FnD := runF 6 b_Lbuild
theorem ok_Lbuild {fa : Addr} {fd : FuncData} (Fu : Fun K "_law_build" "_law_build" s_Lbuild fa fd) (hm : mg "_law_build" = some (.ref fa)) (T : Tx mg) (D_Ltake : DFn P w K mg base "_law_take" 1 2 f_Ltake) (D_Lfall : DFn P w K mg base "_law_fall" 4 4 f_Lfall) : DFn P w K mg base "_law_build" 5 4 f_Lbuild := by
  replace D_Ltake := D_Ltake.mono (show 1 ≤ 4 by omega)
  replace D_Lfall := D_Lfall.mono (show 4 ≤ 4 by omega)
  refine dfn_ok (k := 4) Fu hm (Fu.binds (ps := ["draws", "falls", "many", "cell"]) fun _ _ _ _ _ _ us hl => match us, hl with | [_, _, _, _], _ => rfl) sc_Lbuild rfl (by decide) ?_
  intro cdv A outer s H E hr
  have hu := hu65 hr
  exact ⟨_, ds_cons (d_set 4 (d_tup (da_cons (d_str) (da_cons (d_bin b_add (d_var 1) (d_call D_Ltake hr (dc_b 0 (dc_cons (d_bin b_sub (d_var 2) (d_var 1)) (dc_nil))))) (da_nil)))) sc_Lbuild.nd)
      (ds_cons (d_set 5 (d_call D_Ltake hr (dc_b 0 (dc_cons (d_int) (dc_nil)))) sc_Lbuild.nd)
      (ds_cons (d_ifS (d_tcmp (b_lt) (d_var 5) (d_int))
        (ds_one (d_ret (d_tup (da_cons (d_str) (da_cons (d_call D_Lfall hr (dc_b 0 (dc_cons (d_var 1) (dc_cons (d_var 2) (dc_cons (d_var 3) (dc_nil)))))) (da_cons (d_var 4) (da_nil)))))))
        (ds_nil))
      (ds_cons (d_ifS (d_tcmp (b_eq hu) (d_var 5) (d_int))
        (ds_one (d_ret (d_tup (da_cons (d_str) (da_cons (d_call D_Lfall hr (dc_b 0 (dc_cons (d_var 1) (dc_cons (d_var 2) (dc_cons (d_var 3) (dc_nil)))))) (da_cons (d_var 4) (da_nil)))))))
        (ds_nil))
      (ds_cons (d_ifS (d_tcmp (b_eq hu) (d_var 5) (d_int))
        (ds_one (d_ret (d_tup (da_cons (d_str) (da_cons (d_var 4) (da_nil))))))
        (ds_nil))
      (ds_cons (d_ifS (d_tcmp (b_eq hu) (d_var 5) (d_int))
        (ds_one (d_ret (d_tup (da_cons (d_str) (da_cons (d_tup (da_cons (d_str) (da_cons (d_call D_Ltake hr (dc_b 0 (dc_cons (d_int) (dc_nil)))) (da_nil)))) (da_cons (d_var 4) (da_cons (d_call D_Lfall hr (dc_b 0 (dc_cons (d_var 1) (dc_cons (d_var 2) (dc_cons (d_var 3) (dc_nil)))))) (da_nil))))))))
        (ds_nil))
      (ds_one (d_ret (d_var 4))))))))⟩
def w_Lprogram_1 : RS :=
  rsSeq (rsSet 9 (rdCall f_Ltake (rcB 0 (rcCons (rdVar 2) (rcNil)))))
  (rsIf (rdTst (rdBin fLt (rdVar 9) (rdVar 1)))
    (rsExpr (rdApp 7 (rdTup (raCons (rdVar 9) (raCons (rdCall f_Lfall (rcB 0 (rcCons (rdVar 1) (rcCons (rdVar 2) (rcCons (rdVar 4) (rcNil)))))) (raNil))))))
    (rsExpr (rdApp 7 (rdTup (raCons (rdVar 9) (raCons (rdCall f_Lbuild (rcB 0 (rcCons (rdVar 1) (rcCons (rdVar 2) (rcCons (rdVar 4) (rcNil)))))) (raNil)))))))
def w_Lprogram_2 : RS :=
  rsSeq (rsSet 7 (rdLst (raNil)))
  (rsSeq (rsFor (riRng1 (rdCall f_Ltake (rcB 0 (rcCons (rdC (.int 4)) (rcNil))))) (rgName 8) w_Lprogram_1 [8, 9])
  (rsSeq (rsSet 10 (rdCall f_Ltake (rcB 0 (rcCons (rdC (.int 5)) (rcNil)))))
  (rsSeq (rsIf (rtOr (rdTst (rdBin (fEq false) (rdVar 10) (rdC (.int 0)))) (rdTst (rdBin (fEq false) (rdVar 3) (rdC (.int 1)))))
    (rsSet 11 (rdTup (raCons (rdC (.str "end")) (raCons (rdTup (raCons (rdC (.str "of")) (raCons (rdCall f_Ltake (rcB 0 (rcCons (rdVar 2) (rcNil)))) (raNil)))) (raNil)))))
    (rsIf (rdTst (rdBin (fEq false) (rdVar 10) (rdC (.int 1))))
    (rsSet 11 (rdTup (raCons (rdC (.str "goto")) (raCons (rdCall f_Ltake (rcB 0 (rcCons (rdVar 3) (rcNil)))) (raNil)))))
    (rsSet 11 (rdTup (raCons (rdC (.str "test")) (raCons (rdCall f_Lfall (rcB 0 (rcCons (rdVar 1) (rcCons (rdVar 2) (rcCons (rdVar 4) (rcNil)))))) (raCons (rdCall f_Ltake (rcB 0 (rcCons (rdVar 3) (rcNil)))) (raCons (rdCall f_Ltake (rcB 0 (rcCons (rdVar 3) (rcNil)))) (raNil)))))))))
  (rsExpr (rdApp 5 (rdTup (raCons (rdCB fTuple (raCons (rdVar 7) (raNil))) (raCons (rdVar 11) (raNil)))))))))
abbrev s_Lprogram : Stmt := top 23
theorem sc_Lprogram : FnScope ["draws", "falls", "many", "size", "cell", "blocks", "k", "assigns", "j", "v", "pick", "jump"] ["draws", "falls", "many", "size", "cell"] (defScope s_Lprogram) := ⟨rfl, rfl, rfl, by decide +kernel, rfl, by decide +kernel, by decide +kernel⟩
def b_Lprogram : RS :=
  rsSeq (rsSet 5 (rdLst (raNil)))
  (rsSeq (rsFor (riRng1 (rdVar 3)) (rgName 6) w_Lprogram_2 [6, 7, 8, 9, 10, 11])
  (rsRet (rdTup (raCons (rdVar 2) (raCons (rdCB fTuple (raCons (rdVar 5) (raNil))) (raNil))))))
def f_Lprogram : FnD := runF 12 b_Lprogram
theorem ok_Lprogram {fa : Addr} {fd : FuncData} (Fu : Fun K "_law_program" "_law_program" s_Lprogram fa fd) (hm : mg "_law_program" = some (.ref fa)) (T : Tx mg) (D_Ltake : DFn P w K mg base "_law_take" 1 2 f_Ltake) (D_Lfall : DFn P w K mg base "_law_fall" 4 4 f_Lfall) (D_Lbuild : DFn P w K mg base "_law_build" 5 4 f_Lbuild) : DFn P w K mg base "_law_program" 6 5 f_Lprogram := by
  replace D_Ltake := D_Ltake.mono (show 1 ≤ 5 by omega)
  replace D_Lfall := D_Lfall.mono (show 4 ≤ 5 by omega)
  replace D_Lbuild := D_Lbuild.mono (show 5 ≤ 5 by omega)
  refine dfn_ok (k := 5) Fu hm (Fu.binds (ps := ["draws", "falls", "many", "size", "cell"]) fun _ _ _ _ _ _ us hl => match us, hl with | [_, _, _, _, _], _ => rfl) sc_Lprogram rfl (by decide) ?_
  intro cdv A outer s H E hr
  have hu := hu65 hr
  exact ⟨_, ds_cons (d_set 5 (d_lst (da_nil)) sc_Lprogram.nd)
      (ds_cons (d_for [6, 7, 8, 9, 10, 11] (di_rng1 (d_var 3) T.range) (dg_name 6 sc_Lprogram.nd)
        (ds_cons (d_set 7 (d_lst (da_nil)) sc_Lprogram.nd)
      (ds_cons (d_for [8, 9] (di_rng1 (d_call D_Ltake hr (dc_b 0 (dc_cons (d_int) (dc_nil)))) T.range) (dg_name 8 sc_Lprogram.nd)
        (ds_cons (d_set 9 (d_call D_Ltake hr (dc_b 0 (dc_cons (d_var 2) (dc_nil)))) sc_Lprogram.nd)
      (ds_one (d_ifS (d_tcmp (b_lt) (d_var 9) (d_var 1))
        (ds_one (d_expr (d_app 7 (d_tup (da_cons (d_var 9) (da_cons (d_call D_Lfall hr (dc_b 0 (dc_cons (d_var 1) (dc_cons (d_var 2) (dc_cons (d_var 4) (dc_nil)))))) (da_nil)))))))
        (ds_one (d_expr (d_app 7 (d_tup (da_cons (d_var 9) (da_cons (d_call D_Lbuild hr (dc_b 0 (dc_cons (d_var 1) (dc_cons (d_var 2) (dc_cons (d_var 4) (dc_nil)))))) (da_nil)))))))))))
      (ds_cons (d_set 10 (d_call D_Ltake hr (dc_b 0 (dc_cons (d_int) (dc_nil)))) sc_Lprogram.nd)
      (ds_cons (d_ifS (d_tw (d_tor (d_tcmp (b_eq hu) (d_var 10) (d_int)) (d_tor1 (d_tcmp (b_eq hu) (d_var 3) (d_int)))))
        (ds_one (d_set 11 (d_tup (da_cons (d_str) (da_cons (d_tup (da_cons (d_str) (da_cons (d_call D_Ltake hr (dc_b 0 (dc_cons (d_var 2) (dc_nil)))) (da_nil)))) (da_nil)))) sc_Lprogram.nd))
        (ds_one (d_ifS (d_tcmp (b_eq hu) (d_var 10) (d_int))
        (ds_one (d_set 11 (d_tup (da_cons (d_str) (da_cons (d_call D_Ltake hr (dc_b 0 (dc_cons (d_var 3) (dc_nil)))) (da_nil)))) sc_Lprogram.nd))
        (ds_one (d_set 11 (d_tup (da_cons (d_str) (da_cons (d_call D_Lfall hr (dc_b 0 (dc_cons (d_var 1) (dc_cons (d_var 2) (dc_cons (d_var 4) (dc_nil)))))) (da_cons (d_call D_Ltake hr (dc_b 0 (dc_cons (d_var 3) (dc_nil)))) (da_cons (d_call D_Ltake hr (dc_b 0 (dc_cons (d_var 3) (dc_nil)))) (da_nil)))))) sc_Lprogram.nd)))))
      (ds_one (d_expr (d_app 5 (d_tup (da_cons (d_ct c_tuple T.tup bt_tuple (da_cons (d_var 7) (da_nil))) (da_cons (d_var 11) (da_nil))))))))))))
      (ds_one (d_ret (d_tup (da_cons (d_var 2) (da_cons (d_ct c_tuple T.tup bt_tuple (da_cons (d_var 5) (da_nil))) (da_nil)))))))⟩
def w_Lsame_1 (self : FnD) : RS :=
  rsIf (rtNot (rdTst (rdCall self (rcCons (rdIxV 0 (rdVar 2)) (rcCons (rdIxV 1 (rdVar 2)) (rcNil))))))
    (rsRet (rdC (.bool false)))
    (rsNil)
abbrev s_Lsame : Stmt := top 24
theorem sc_Lsame : FnScope ["actual", "due", "k"] ["actual", "due"] (defScope s_Lsame) := ⟨rfl, rfl, rfl, by decide +kernel, rfl, by decide +kernel, by decide +kernel⟩
def b_Lsame (self : FnD) : RS :=
  rsSeq (rsIf (rdTst (rdIsi "bool" isBool (rdVar 1)))
    (rsRet (rdAnd (rdIsi "bool" isBool (rdVar 0)) (rdBin (fEq false) (rdVar 0) (rdVar 1))))
    (rsNil))
  (rsSeq (rsIf (rdTst (rdIsi "int" isInt (rdVar 1)))
    (rsRet (rdAnd (rdIsi "int" isInt (rdVar 0)) (rdAnd (rdNot (rdIsi "bool" isBool (rdVar 0))) (rdBin (fEq false) (rdVar 0) (rdVar 1)))))
    (rsNil))
  (rsSeq (rsIf (rdTst (rdIsi "str" isStr (rdVar 1)))
    (rsRet (rdAnd (rdIsi "str" isStr (rdVar 0)) (rdBin (fEq false) (rdVar 0) (rdVar 1))))
    (rsNil))
  (rsSeq (rsIf (rdTst (rdIsN false (rdVar 1)))
    (rsRet (rdIsN false (rdVar 0)))
    (rsNil))
  (rsSeq (rsIf (rtOr (rtNot (rdTst (rdIsi "tuple" isTuple (rdVar 0)))) (rdTst (rdBin (fEq true) (rdLenV 0) (rdLenV 1))))
    (rsRet (rdC (.bool false)))
    (rsNil))
  (rsSeq (rsFor (riRng1 (rdLenV 1)) (rgName 2) (w_Lsame_1 self) [2])
  (rsRet (rdC (.bool true))))))))
def f_Lsame : Nat → FnD
  | 0 => fun _ => none
  | n + 1 => runF 3 (b_Lsame (f_Lsame n))
theorem ok_Lsame {fa : Addr} {fd : FuncData} (Fu : Fun K "_law_same" "_law_same" s_Lsame fa fd) (hm : mg "_law_same" = some (.ref fa)) (T : Tx mg)  : ∀ n, DFn P w K mg base "_law_same" (0 + 1 + n) 2 (f_Lsame n)
  | 0 => dfn_zero Fu hm (Fu.binds (ps := ["actual", "due"]) fun _ _ _ _ _ _ us hl => match us, hl with | [_, _], _ => rfl) rfl (0 + 1)
  | n + 1 => by
    have D_Lsame := ok_Lsame Fu hm T  n
    refine dfn_ok (k := 0 + 1 + n) Fu hm (Fu.binds (ps := ["actual", "due"]) fun _ _ _ _ _ _ us hl => match us, hl with | [_, _], _ => rfl) sc_Lsame rfl (by decide) ?_
    intro cdv A outer s H E hr
    have hu := hu65 hr
    exact ⟨_, ds_cons (d_ifS (d_tval (d_isi kB T.isi T.bool bt_bool (d_var 1)))
            (ds_one (d_ret (d_and (d_isi kB T.isi T.bool bt_bool (d_var 0)) (d_one (d_cmp (b_eq hu) (d_var 0) (d_var 1))))))
            (ds_nil))
          (ds_cons (d_ifS (d_tval (d_isi kI T.isi T.int bt_int (d_var 1)))
            (ds_one (d_ret (d_and (d_isi kI T.isi T.int bt_int (d_var 0)) (d_and (d_not (d_isi kB T.isi T.bool bt_bool (d_var 0))) (d_one (d_cmp (b_eq hu) (d_var 0) (d_var 1)))))))
            (ds_nil))
          (ds_cons (d_ifS (d_tval (d_isi kS T.isi T.str bt_str (d_var 1)))
            (ds_one (d_ret (d_and (d_isi kS T.isi T.str bt_str (d_var 0)) (d_one (d_cmp (b_eq hu) (d_var 0) (d_var 1))))))
            (ds_nil))
          (ds_cons (d_ifS (d_tisN (d_var 1))
            (ds_one (d_ret (d_isN (d_var 0))))
            (ds_nil))
          (ds_cons (d_ifS (d_tw (d_tor (d_tnot (d_tval (d_isi kT T.isi T.tup bt_tuple (d_var 0)))) (d_tor1 (d_tcmp (b_ne hu) (d_lenV 0 T.len) (d_lenV 1 T.len)))))
            (ds_one (d_ret (d_bl)))
            (ds_nil))
          (ds_cons (d_for [2] (di_rng1 (d_lenV 1 T.len) T.range) (dg_name 2 sc_Lsame.nd)
            (ds_one (d_ifS (d_tnot (d_tval (d_call D_Lsame hr (dc_cons (d_ixV 0 (d_var 2)) (dc_cons (d_ixV 1 (d_var 2)) (dc_nil))))))
            (ds_one (d_ret (d_bl)))
            (ds_nil))))
          (ds_one (d_ret (d_bl))))))))⟩
def e_Lanswers_1 : RE :=
  rdCall f_Ltake (rcB 0 (rcCons (rdC (.int 2)) (rcNil)))
abbrev s_Lanswers : Stmt := top 25
theorem sc_Lanswers : FnScope ["draws", "many", "k"] ["draws", "many"] (defScope s_Lanswers) := ⟨rfl, rfl, rfl, by decide +kernel, rfl, by decide +kernel, by decide +kernel⟩
def b_Lanswers : RS :=
  rsRet (rdCB fTuple (raCons (rdLc (riRng1 (rdCall f_Ltake (rcB 0 (rcCons (rdBin fAdd (rdVar 1) (rdC (.int 1))) (rcNil))))) (rgName 2) rtYes (e_Lanswers_1) [2]) (raNil)))
def f_Lanswers : FnD := runF 3 b_Lanswers
theorem ok_Lanswers {fa : Addr} {fd : FuncData} (Fu : Fun K "_law_answers" "_law_answers" s_Lanswers fa fd) (hm : mg "_law_answers" = some (.ref fa)) (T : Tx mg) (D_Ltake : DFn P w K mg base "_law_take" 1 2 f_Ltake) : DFn P w K mg base "_law_answers" 2 2 f_Lanswers := by
  replace D_Ltake := D_Ltake.mono (show 1 ≤ 1 by omega)
  refine dfn_ok (k := 1) Fu hm (Fu.binds (ps := ["draws", "many"]) fun _ _ _ _ _ _ us hl => match us, hl with | [_, _], _ => rfl) sc_Lanswers rfl (by decide) ?_
  intro cdv A outer s H E hr
  have hu := hu65 hr
  exact ⟨_, ds_one (d_ret (d_ct c_tuple T.tup bt_tuple (da_cons (d_lcE (d_lc0 (own := [("k", 2)]) (di_rng1 (d_call D_Ltake hr (dc_b 0 (dc_cons (d_bin b_add (d_var 1) (d_int)) (dc_nil)))) T.range) (fun _ _ _ _ _ => dg_name 2 sc_Lanswers.nd) (fun _ _ _ _ _ => d_call D_Ltake hr (dc_b 0 (dc_cons (d_int) (dc_nil))))) sc_Lanswers.nd) (da_nil))))⟩
abbrev s_Lways : Stmt := top 26
theorem sc_Lways : FnScope ["program", "block", "jump"] ["program", "block"] (defScope s_Lways) := ⟨rfl, rfl, rfl, by decide +kernel, rfl, by decide +kernel, by decide +kernel⟩
def b_Lways : RS :=
  rsSeq (rsSet 2 (rdBin fIx (rdBin fIx (rdIxV 0 (rdC (.int 1))) (rdVar 1)) (rdC (.int 1))))
  (rsSeq (rsIf (rdTst (rdBin (fEq false) (rdIxV 2 (rdC (.int 0))) (rdC (.str "goto"))))
    (rsRet (rdLst (raCons (rdIxV 2 (rdC (.int 1))) (raNil))))
    (rsNil))
  (rsSeq (rsIf (rdTst (rdBin (fEq false) (rdIxV 2 (rdC (.int 0))) (rdC (.str "test"))))
    (rsRet (rdLst (raCons (rdIxV 2 (rdC (.int 2))) (raCons (rdIxV 2 (rdC (.int 3))) (raNil)))))
    (rsNil))
  (rsRet (rdLst (raNil)))))
def f_Lways : FnD := runF 3 b_Lways
theorem ok_Lways {fa : Addr} {fd : FuncData} (Fu : Fun K "_law_ways" "_law_ways" s_Lways fa fd) (hm : mg "_law_ways" = some (.ref fa)) (T : Tx mg)  : DFn P w K mg base "_law_ways" 1 2 f_Lways := by
  refine dfn_ok (k := 0) Fu hm (Fu.binds (ps := ["program", "block"]) fun _ _ _ _ _ _ us hl => match us, hl with | [_, _], _ => rfl) sc_Lways rfl (by decide) ?_
  intro cdv A outer s H E hr
  have hu := hu65 hr
  exact ⟨_, ds_cons (d_set 2 (d_ix (d_ix (d_ixV 0 (d_int)) (d_var 1)) (d_int)) sc_Lways.nd)
      (ds_cons (d_ifS (d_tcmp (b_eq hu) (d_ixV 2 (d_int)) (d_str))
        (ds_one (d_ret (d_lst (da_cons (d_ixV 2 (d_int)) (da_nil)))))
        (ds_nil))
      (ds_cons (d_ifS (d_tcmp (b_eq hu) (d_ixV 2 (d_int)) (d_str))
        (ds_one (d_ret (d_lst (da_cons (d_ixV 2 (d_int)) (da_cons (d_ixV 2 (d_int)) (da_nil))))))
        (ds_nil))
      (ds_one (d_ret (d_lst (da_nil))))))⟩
def w_Lended_rows_1 : RS :=
  rsIf (rdTst (rdBin fGt (rdLenV 4) (rdC (.int 0))))
    (rsSeq (rsAsg (rdPop 4) (rgTup 3 (rgCons (rgName 6) (rgCons (rgName 7) (rgCons (rgName 8) (rgNil))))))
  (rsSeq (rsSet 9 (rdCall f_Lways (rcCons (rdVar 0) (rcCons (rdVar 7) (rcNil)))))
  (rsSeq (rsIf (rtAnd (rdTst (rdBin fLt (rdVar 8) (rdVar 1))) (rdTst (rdBin (fEq false) (rdLenV 9) (rdC (.int 0)))))
    (rsExpr (rdApp 3 (rdTup (raCons (rdVar 6) (raCons (rdBin fAdd (rdVar 8) (rdC (.int 1))) (raNil))))))
    (rsNil))
  (rsSeq (rsIf (rtAnd (rdTst (rdBin fLt (rdVar 8) (rdVar 1))) (rdTst (rdBin (fEq false) (rdLenV 9) (rdC (.int 1)))))
    (rsExpr (rdApp 4 (rdTup (raCons (rdVar 6) (raCons (rdIxV 9 (rdC (.int 0))) (raCons (rdBin fAdd (rdVar 8) (rdC (.int 1))) (raNil)))))))
    (rsNil))
  (rsIf (rtAnd (rdTst (rdBin fLt (rdVar 8) (rdVar 1))) (rdTst (rdBin (fEq false) (rdLenV 9) (rdC (.int 2)))))
    (rsSet 4 (rdBin fAdd (rdVar 4) (rdLst (raCons (rdTup (raCons (rdBin fAdd (rdVar 6) (rdTup (raCons (rdC (.int 1)) (raNil)))) (raCons (rdIxV 9 (rdC (.int 0))) (raCons (rdBin fAdd (rdVar 8) (rdC (.int 1))) (raNil))))) (raCons (rdTup (raCons (rdBin fAdd (rdVar 6) (rdTup (raCons (rdC (.int 0)) (raNil)))) (raCons (rdIxV 9 (rdC (.int 1))) (raCons (rdBin fAdd (rdVar 8) (rdC (.int 1))) (raNil))))) (raNil))))))
    (rsNil))))))
    (rsNil)
abbrev s_Lended_rows : Stmt := top 27
theorem sc_Lended_rows : FnScope ["program", "most", "all_of", "found", "todo", "turn", "row", "block", "steps", "ways"] ["program", "most", "all_of"] (defScope s_Lended_rows) := ⟨rfl, rfl, rfl, by decide +kernel, rfl, by decide +kernel, by decide +kernel⟩
def b_Lended_rows : RS :=
  rsSeq (rsSet 3 (rdLst (raNil)))
  (rsSeq (rsSet 4 (rdLst (raCons (rdTup (raCons (rdTup (raNil)) (raCons (rdC (.int 0)) (raCons (rdC (.int 0)) (raNil))))) (raNil))))
  (rsSeq (rsFor (riRng1 (rdVar 2)) (rgName 5) w_Lended_rows_1 [5, 6, 7, 8, 9])
  (rsRet (rdVar 3))))
def f_Lended_rows : FnD := runF 10 b_Lended_rows
theorem ok_Lended_rows {fa : Addr} {fd : FuncData} (Fu : Fun K "_law_ended_rows" "_law_ended_rows" s_Lended_rows fa fd) (hm : mg "_law_ended_rows" = some (.ref fa)) (T : Tx mg) (D_Lways : DFn P w K mg base "_law_ways" 1 2 f_Lways) : DFn P w K mg base "_law_ended_rows" 2 3 f_Lended_rows := by
  replace D_Lways := D_Lways.mono (show 1 ≤ 1 by omega)
  refine dfn_ok (k := 1) Fu hm (Fu.binds (ps := ["program", "most", "all_of"]) fun _ _ _ _ _ _ us hl => match us, hl with | [_, _, _], _ => rfl) sc_Lended_rows rfl (by decide) ?_
  intro cdv A outer s H E hr
  have hu := hu65 hr
  exact ⟨_, ds_cons (d_set 3 (d_lst (da_nil)) sc_Lended_rows.nd)
      (ds_cons (d_set 4 (d_lst (da_cons (d_tup (da_cons (d_tup (da_nil)) (da_cons (d_int) (da_cons (d_int) (da_nil))))) (da_nil))) sc_Lended_rows.nd)
      (ds_cons (d_for [5, 6, 7, 8, 9] (di_rng1 (d_var 2) T.range) (dg_name 5 sc_Lended_rows.nd)
        (ds_one (d_ifS (d_tcmp (b_gt) (d_lenV 4 T.len) (d_int))
        (ds_cons (d_asg (d_pop 4) (dg_tup (dgs_cons (dg_name 6 sc_Lended_rows.nd) (dgs_cons (dg_name 7 sc_Lended_rows.nd) (dgs_cons (dg_name 8 sc_Lended_rows.nd) (dgs_nil))))))
      (ds_cons (d_set 9 (d_call D_Lways hr (dc_cons (d_var 0) (dc_cons (d_var 7) (dc_nil)))) sc_Lended_rows.nd)
      (ds_cons (d_ifS (d_tw (d_tand (d_tcmp (b_lt) (d_var 8) (d_var 1)) (d_tand1 (d_tcmp (b_eq hu) (d_lenV 9 T.len) (d_int)))))
        (ds_one (d_expr (d_app 3 (d_tup (da_cons (d_var 6) (da_cons (d_bin b_add (d_var 8) (d_int)) (da_nil)))))))
        (ds_nil))
      (ds_cons (d_ifS (d_tw (d_tand (d_tcmp (b_lt) (d_var 8) (d_var 1)) (d_tand1 (d_tcmp (b_eq hu) (d_lenV 9 T.len) (d_int)))))
        (ds_one (d_expr (d_app 4 (d_tup (da_cons (d_var 6) (da_cons (d_ixV 9 (d_int)) (da_cons (d_bin b_add (d_var 8) (d_int)) (da_nil))))))))
        (ds_nil))
      (ds_one (d_ifS (d_tw (d_tand (d_tcmp (b_lt) (d_var 8) (d_var 1)) (d_tand1 (d_tcmp (b_eq hu) (d_lenV 9 T.len) (d_int)))))
        (ds_one (d_set 4 (d_bin b_add (d_var 4) (d_lst (da_cons (d_tup (da_cons (d_bin b_add (d_var 6) (d_tup (da_cons (d_int) (da_nil)))) (da_cons (d_ixV 9 (d_int)) (da_cons (d_bin b_add (d_var 8) (d_int)) (da_nil))))) (da_cons (d_tup (da_cons (d_bin b_add (d_var 6) (d_tup (da_cons (d_int) (da_nil)))) (da_cons (d_ixV 9 (d_int)) (da_cons (d_bin b_add (d_var 8) (d_int)) (da_nil))))) (da_nil))))) sc_Lended_rows.nd))
        (ds_nil)))))))
        (ds_nil))))
      (ds_one (d_ret (d_var 3)))))⟩
def e_Lring_1 : RE :=
  rdVar 5
def t_Lring_2 : RT :=
  rdTst (rdInV true (rdVar 5) 3)
def w_Lring_3 : RS :=
  rsSet 3 (rdBin fAdd (rdVar 3) (rdLc (riSeq (rdCall f_Lways (rcCons (rdVar 0) (rcCons (rdVar 4) (rcNil))))) (rgName 5) (t_Lring_2) (e_Lring_1) [5]))
def w_Lring_4 : RS :=
  rsSeq (rsSet 3 (rdLst (raNil)))
  (rsSeq (rsFor (riSeq (rdVar 1)) (rgName 4) w_Lring_3 [4])
  (rsSet 1 (rdVar 3)))
abbrev s_Lring : Stmt := top 28
theorem sc_Lring : FnScope ["program", "front", "step", "later", "block", "own"] ["program"] (defScope s_Lring) := ⟨rfl, rfl, rfl, by decide +kernel, rfl, by decide +kernel, by decide +kernel⟩
def b_Lring : RS :=
  rsSeq (rsSet 1 (rdLst (raCons (rdC (.int 0)) (raNil))))
  (rsSeq (rsFor (riRng1 (rdCB fLen (raCons (rdIxV 0 (rdC (.int 1))) (raNil)))) (rgName 2) w_Lring_4 [2, 3, 4])
  (rsRet (rdBin fGt (rdLenV 1) (rdC (.int 0)))))
def f_Lring : FnD := runF 6 b_Lring
theorem ok_Lring {fa : Addr} {fd : FuncData} (Fu : Fun K "_law_ring" "_law_ring" s_Lring fa fd) (hm : mg "_law_ring" = some (.ref fa)) (T : Tx mg) (D_Lways : DFn P w K mg base "_law_ways" 1 2 f_Lways) : DFn P w K mg base "_law_ring" 2 1 f_Lring := by
  replace D_Lways := D_Lways.mono (show 1 ≤ 1 by omega)
  refine dfn_ok (k := 1) Fu hm (Fu.binds (ps := ["program"]) fun _ _ _ _ _ _ us hl => match us, hl with | [_], _ => rfl) sc_Lring rfl (by decide) ?_
  intro cdv A outer s H E hr
  have hu := hu65 hr
  exact ⟨_, ds_cons (d_set 1 (d_lst (da_cons (d_int) (da_nil))) sc_Lring.nd)
      (ds_cons (d_for [2, 3, 4] (di_rng1 (d_cb c_len T.len bt_len (da_cons (d_ixV 0 (d_int)) (da_nil))) T.range) (dg_name 2 sc_Lring.nd)
        (ds_cons (d_set 3 (d_lst (da_nil)) sc_Lring.nd)
      (ds_cons (d_for [4] (di_seq (d_var 1)) (dg_name 4 sc_Lring.nd)
        (ds_one (d_set 3 (d_bin b_add (d_var 3) (d_lcE (d_lc1 (own := [("own", 5)]) (di_seq (d_call D_Lways hr (dc_cons (d_var 0) (dc_cons (d_var 4) (dc_nil))))) (fun _ _ _ _ _ => dg_name 5 sc_Lring.nd) (fun _ _ _ _ _ => d_tniV 3 hu (d_var 5)) (fun _ _ _ _ _ => d_var 5)) sc_Lring.nd)) sc_Lring.nd)))
      (ds_one (d_set 1 (d_var 3) sc_Lring.nd)))))
      (ds_one (d_ret (d_cmp (b_gt) (d_lenV 1 T.len) (d_int)))))⟩
def w_Lforward_1 : RS :=
  rsSeq (rsAsg (rdBin fIx (rdIxV 1 (rdC (.int 1))) (rdVar 4)) (rgTup 2 (rgCons (rgName 5) (rgCons (rgName 6) (rgNil)))))
  (rsSeq (rsSet 7 (rdBin fSub (rdBin fSub (rdVar 2) (rdC (.int 1))) (rdVar 4)))
  (rsSeq (rsIf (rtAnd (rdTst (rdBin (fEq false) (rdVar 7) (rdC (.int 0)))) (rdTst (rdBin (fEq true) (rdIxV 6 (rdC (.int 0))) (rdC (.str "end")))))
    (rsSet 6 (rdTup (raCons (rdC (.str "end")) (raCons (rdTup (raCons (rdC (.str "of")) (raCons (rdC (.int 0)) (raNil)))) (raNil)))))
    (rsIf (rdTst (rdBin (fEq false) (rdIxV 6 (rdC (.int 0))) (rdC (.str "goto"))))
    (rsSet 6 (rdTup (raCons (rdC (.str "goto")) (raCons (rdBin fAdd (rdBin fAdd (rdVar 4) (rdC (.int 1))) (rdCall f_Ltake (rcB 0 (rcCons (rdVar 7) (rcNil))))) (raNil)))))
    (rsIf (rdTst (rdBin (fEq false) (rdIxV 6 (rdC (.int 0))) (rdC (.str "test"))))
    (rsSet 6 (rdBin fAdd (rdSl (rdVar 6) (roNone) (roSome (rdC (.int 2)))) (rdTup (raCons (rdBin fAdd (rdBin fAdd (rdVar 4) (rdC (.int 1))) (rdCall f_Ltake (rcB 0 (rcCons (rdVar 7) (rcNil))))) (raCons (rdBin fAdd (rdBin fAdd (rdVar 4) (rdC (.int 1))) (rdCall f_Ltake (rcB 0 (rcCons (rdVar 7) (rcNil))))) (raNil))))))
    (rsNil))))
  (rsExpr (rdApp 3 (rdTup (raCons (rdVar 5) (raCons (rdVar 6) (raNil))))))))
abbrev s_Lforward : Stmt := top 29
theorem sc_Lforward : FnScope ["draws", "program", "size", "blocks", "k", "assigns", "jump", "behind"] ["draws", "program"] (defScope s_Lforward) := ⟨rfl, rfl, rfl, by decide +kernel, rfl, by decide +kernel, by decide +kernel⟩
def b_Lforward : RS :=
  rsSeq (rsSet 2 (rdCB fLen (raCons (rdIxV 1 (rdC (.int 1))) (raNil))))
  (rsSeq (rsSet 3 (rdLst (raNil)))
  (rsSeq (rsFor (riRng1 (rdVar 2)) (rgName 4) w_Lforward_1 [4, 5, 6, 7])
  (rsRet (rdTup (raCons (rdIxV 1 (rdC (.int 0))) (raCons (rdCB fTuple (raCons (rdVar 3) (raNil))) (raNil)))))))
def f_Lforward : FnD := runF 8 b_Lforward
theorem ok_Lforward {fa : Addr} {fd : FuncData} (Fu : Fun K "_law_forward" "_law_forward" s_Lforward fa fd) (hm : mg "_law_forward" = some (.ref fa)) (T : Tx mg) (D_Ltake : DFn P w K mg base "_law_take" 1 2 f_Ltake) : DFn P w K mg base "_law_forward" 2 2 f_Lforward := by
  replace D_Ltake := D_Ltake.mono (show 1 ≤ 1 by omega)
  refine dfn_ok (k := 1) Fu hm (Fu.binds (ps := ["draws", "program"]) fun _ _ _ _ _ _ us hl => match us, hl with | [_, _], _ => rfl) sc_Lforward rfl (by decide) ?_
  intro cdv A outer s H E hr
  have hu := hu65 hr
  exact ⟨_, ds_cons (d_set 2 (d_cb c_len T.len bt_len (da_cons (d_ixV 1 (d_int)) (da_nil))) sc_Lforward.nd)
      (ds_cons (d_set 3 (d_lst (da_nil)) sc_Lforward.nd)
      (ds_cons (d_for [4, 5, 6, 7] (di_rng1 (d_var 2) T.range) (dg_name 4 sc_Lforward.nd)
        (ds_cons (d_asg (d_ix (d_ixV 1 (d_int)) (d_var 4)) (dg_tup (dgs_cons (dg_name 5 sc_Lforward.nd) (dgs_cons (dg_name 6 sc_Lforward.nd) (dgs_nil)))))
      (ds_cons (d_set 7 (d_bin b_sub (d_bin b_sub (d_var 2) (d_int)) (d_var 4)) sc_Lforward.nd)
      (ds_cons (d_ifS (d_tw (d_tand (d_tcmp (b_eq hu) (d_var 7) (d_int)) (d_tand1 (d_tcmp (b_ne hu) (d_ixV 6 (d_int)) (d_str)))))
        (ds_one (d_set 6 (d_tup (da_cons (d_str) (da_cons (d_tup (da_cons (d_str) (da_cons (d_int) (da_nil)))) (da_nil)))) sc_Lforward.nd))
        (ds_one (d_ifS (d_tcmp (b_eq hu) (d_ixV 6 (d_int)) (d_str))
        (ds_one (d_set 6 (d_tup (da_cons (d_str) (da_cons (d_bin b_add (d_bin b_add (d_var 4) (d_int)) (d_call D_Ltake hr (dc_b 0 (dc_cons (d_var 7) (dc_nil))))) (da_nil)))) sc_Lforward.nd))
        (ds_one (d_ifS (d_tcmp (b_eq hu) (d_ixV 6 (d_int)) (d_str))
        (ds_one (d_set 6 (d_bin b_add (d_sl (d_var 6) (do_none) (do_some (d_int))) (d_tup (da_cons (d_bin b_add (d_bin b_add (d_var 4) (d_int)) (d_call D_Ltake hr (dc_b 0 (dc_cons (d_var 7) (dc_nil))))) (da_cons (d_bin b_add (d_bin b_add (d_var 4) (d_int)) (d_call D_Ltake hr (dc_b 0 (dc_cons (d_var 7) (dc_nil))))) (da_nil))))) sc_Lforward.nd))
        (ds_nil))))))
      (ds_one (d_expr (d_app 3 (d_tup (da_cons (d_var 5) (da_cons (d_var 6) (da_nil)))))))))))
      (ds_one (d_ret (d_tup (da_cons (d_ixV 1 (d_int)) (da_cons (d_ct c_tuple T.tup bt_tuple (da_cons (d_var 3) (da_nil))) (da_nil))))))))⟩
def w_Lopen_rows_1 : RS :=
  rsSet 4 (rdBin fAdd (rdVar 4) (rdCall f_Lways (rcCons (rdVar 0) (rcCons (rdVar 5) (rcNil)))))
def w_Lopen_rows_2 : RS :=
  rsSeq (rsSet 4 (rdLst (raNil)))
  (rsSeq (rsFor (riSeq (rdVar 2)) (rgName 5) w_Lopen_rows_1 [5])
  (rsSet 2 (rdVar 4)))
abbrev s_Lopen_rows : Stmt := top 30
theorem sc_Lopen_rows : FnScope ["program", "steps", "front", "step", "later", "block"] ["program", "steps"] (defScope s_Lopen_rows) := ⟨rfl, rfl, rfl, by decide +kernel, rfl, by decide +kernel, by decide +kernel⟩
def b_Lopen_rows : RS :=
  rsSeq (rsSet 2 (rdLst (raCons (rdC (.int 0)) (raNil))))
  (rsSeq (rsFor (riRng1 (rdVar 1)) (rgName 3) w_Lopen_rows_2 [3, 4, 5])
  (rsRet (rdLenV 2)))
def f_Lopen_rows : FnD := runF 6 b_Lopen_rows
theorem ok_Lopen_rows {fa : Addr} {fd : FuncData} (Fu : Fun K "_law_open_rows" "_law_open_rows" s_Lopen_rows fa fd) (hm : mg "_law_open_rows" = some (.ref fa)) (T : Tx mg) (D_Lways : DFn P w K mg base "_law_ways" 1 2 f_Lways) : DFn P w K mg base "_law_open_rows" 2 2 f_Lopen_rows := by
  replace D_Lways := D_Lways.mono (show 1 ≤ 1 by omega)
  refine dfn_ok (k := 1) Fu hm (Fu.binds (ps := ["program", "steps"]) fun _ _ _ _ _ _ us hl => match us, hl with | [_, _], _ => rfl) sc_Lopen_rows rfl (by decide) ?_
  intro cdv A outer s H E hr
  have hu := hu65 hr
  exact ⟨_, ds_cons (d_set 2 (d_lst (da_cons (d_int) (da_nil))) sc_Lopen_rows.nd)
      (ds_cons (d_for [3, 4, 5] (di_rng1 (d_var 1) T.range) (dg_name 3 sc_Lopen_rows.nd)
        (ds_cons (d_set 4 (d_lst (da_nil)) sc_Lopen_rows.nd)
      (ds_cons (d_for [5] (di_seq (d_var 2)) (dg_name 5 sc_Lopen_rows.nd)
        (ds_one (d_set 4 (d_bin b_add (d_var 4) (d_call D_Lways hr (dc_cons (d_var 0) (dc_cons (d_var 5) (dc_nil))))) sc_Lopen_rows.nd)))
      (ds_one (d_set 2 (d_var 4) sc_Lopen_rows.nd)))))
      (ds_one (d_ret (d_lenV 2 T.len))))⟩
def w_Lalong_row_1 : RS :=
  rsSeq (rsSet 6 (rdCall f_Lways (rcCons (rdVar 0) (rcCons (rdVar 3) (rcNil)))))
  (rsSeq (rsIf (rdTst (rdBin (fEq false) (rdLenV 6) (rdC (.int 0))))
    (rsRet (rdTup (raCons (rdC (.str "ended")) (raCons (rdBin fAdd (rdVar 5) (rdC (.int 1))) (raNil)))))
    (rsNil))
  (rsSeq (rsSet 7 (rdC (.int 1)))
  (rsSeq (rsIf (rdTst (rdBin (fEq false) (rdLenV 6) (rdC (.int 2))))
    (rsSeq (rsIf (rdTst (rdBin (fEq false) (rdVar 4) (rdLenV 1)))
    (rsRet (rdTup (raCons (rdC (.str "asks")) (raCons (rdVar 5) (raNil)))))
    (rsNil))
  (rsSeq (rsSet 7 (rdIxV 1 (rdVar 4)))
  (rsSet 4 (rdBin fAdd (rdVar 4) (rdC (.int 1))))))
    (rsNil))
  (rsSet 3 (rdIf (rdTst (rdBin (fEq false) (rdVar 7) (rdC (.int 1)))) (rdIxV 6 (rdC (.int 0))) (rdIxV 6 (rdC (.int 1))))))))
abbrev s_Lalong_row : Stmt := top 31
theorem sc_Lalong_row : FnScope ["program", "row", "most", "block", "asked", "k", "ways", "answer"] ["program", "row", "most"] (defScope s_Lalong_row) := ⟨rfl, rfl, rfl, by decide +kernel, rfl, by decide +kernel, by decide +kernel⟩
def b_Lalong_row : RS :=
  rsSeq (rsSet 3 (rdC (.int 0)))
  (rsSeq (rsSet 4 (rdC (.int 0)))
  (rsSeq (rsFor (riRng1 (rdVar 2)) (rgName 5) w_Lalong_row_1 [5, 6, 7])
  (rsRet (rdTup (raCons (rdC (.str "open")) (raCons (rdVar 2) (raNil)))))))
def f_Lalong_row : FnD := runF 8 b_Lalong_row
theorem ok_Lalong_row {fa : Addr} {fd : FuncData} (Fu : Fun K "_law_along_row" "_law_along_row" s_Lalong_row fa fd) (hm : mg "_law_along_row" = some (.ref fa)) (T : Tx mg) (D_Lways : DFn P w K mg base "_law_ways" 1 2 f_Lways) : DFn P w K mg base "_law_along_row" 2 3 f_Lalong_row := by
  replace D_Lways := D_Lways.mono (show 1 ≤ 1 by omega)
  refine dfn_ok (k := 1) Fu hm (Fu.binds (ps := ["program", "row", "most"]) fun _ _ _ _ _ _ us hl => match us, hl with | [_, _, _], _ => rfl) sc_Lalong_row rfl (by decide) ?_
  intro cdv A outer s H E hr
  have hu := hu65 hr
  exact ⟨_, ds_cons (d_set 3 (d_int) sc_Lalong_row.nd)
      (ds_cons (d_set 4 (d_int) sc_Lalong_row.nd)
      (ds_cons (d_for [5, 6, 7] (di_rng1 (d_var 2) T.range) (dg_name 5 sc_Lalong_row.nd)
        (ds_cons (d_set 6 (d_call D_Lways hr (dc_cons (d_var 0) (dc_cons (d_var 3) (dc_nil)))) sc_Lalong_row.nd)
      (ds_cons (d_ifS (d_tcmp (b_eq hu) (d_lenV 6 T.len) (d_int))
        (ds_one (d_ret (d_tup (da_cons (d_str) (da_cons (d_bin b_add (d_var 5) (d_int)) (da_nil))))))
        (ds_nil))
      (ds_cons (d_set 7 (d_int) sc_Lalong_row.nd)
      (ds_cons (d_ifS (d_tcmp (b_eq hu) (d_lenV 6 T.len) (d_int))
        (ds_cons (d_ifS (d_tcmp (b_eq hu) (d_var 4) (d_lenV 1 T.len))
        (ds_one (d_ret (d_tup (da_cons (d_str) (da_cons (d_var 5) (da_nil))))))
        (ds_nil))
      (ds_cons (d_set 7 (d_ixV 1 (d_var 4)) sc_Lalong_row.nd)
      (ds_one (d_set 4 (d_bin b_add (d_var 4) (d_int)) sc_Lalong_row.nd))))
        (ds_nil))
      (ds_one (d_set 3 (d_if (d_tcmp (b_eq hu) (d_var 7) (d_int)) (d_ixV 6 (d_int)) (d_ixV 6 (d_int))) sc_Lalong_row.nd)))))))
      (ds_one (d_ret (d_tup (da_cons (d_str) (da_cons (d_var 2) (da_nil))))))))⟩
def e_Lis_told_1 : RE :=
  rdIxV 10 (rdC (.int 1))
def w_Lis_told_2 : RS :=
  rsSeq (rsSet 6 (rdCall f_Lended_rows (rcCons (rdVar 1) (rcCons (rdVar 5) (rcCons (rdC (.int 300)) (rcNil))))))
  (rsIf (rtNot (rdTst (rdCall (f_Lsame 12) (rcCons (rdTup (raCons (rdCall f_rows_within (rcCons (rdVar 1) (rcCons (rdVar 5) (rcNil)))) (raCons (rdCall f_rows_open (rcCons (rdVar 1) (rcCons (rdVar 5) (rcNil)))) (raNil)))) (rcCons (rdTup (raCons (rdLenV 6) (raCons (rdCall f_Lopen_rows (rcCons (rdVar 1) (rcCons (rdVar 5) (rcNil)))) (raNil)))) (rcNil))))))
    (rsRet (rdC (.bool false)))
    (rsNil))
def w_Lis_told_3 : RS :=
  rsSeq (rsSet 8 (rdCall f_Lanswers (rcB 0 (rcCons (rdC (.int 6)) (rcNil)))))
  (rsSeq (rsSet 9 (rdBin fAdd (rdC (.int 1)) (rdCall f_Ltake (rcB 0 (rcCons (rdC (.int 9)) (rcNil))))))
  (rsIf (rtNot (rdTst (rdCall (f_Lsame 12) (rcCons (rdCall f_steps_along (rcCons (rdVar 1) (rcCons (rdVar 8) (rcCons (rdVar 9) (rcNil))))) (rcCons (rdCall f_Lalong_row (rcCons (rdVar 1) (rcCons (rdVar 8) (rcCons (rdVar 9) (rcNil))))) (rcNil))))))
    (rsRet (rdC (.bool false)))
    (rsNil)))
abbrev s_Lis_told : Stmt := top 32
theorem sc_Lis_told : FnScope ["draws", "program", "size", "least", "ring", "steps", "ended", "turn", "row", "most", "pair"] ["draws", "program"] (defScope s_Lis_told) := ⟨rfl, rfl, rfl, by decide +kernel, rfl, by decide +kernel, by decide +kernel⟩
def b_Lis_told : RS :=
  rsSeq (rsSet 2 (rdCB fLen (raCons (rdIxV 1 (rdC (.int 1))) (raNil))))
  (rsSeq (rsSet 3 (rdLc (riSeq (rdCall f_Lended_rows (rcCons (rdVar 1) (rcCons (rdVar 2) (rcCons (rdC (.int 200)) (rcNil)))))) (rgName 10) rtYes (e_Lis_told_1) [10]))
  (rsSeq (rsIf (rtNot (rdTst (rdCall (f_Lsame 12) (rcCons (rdCall f_least_steps (rcCons (rdVar 1) (rcNil))) (rcCons (rdIf (rdTst (rdBin fGt (rdLenV 3) (rdC (.int 0)))) (rdCB fMin (raCons (rdVar 3) (raNil))) (rdC .none)) (rcNil))))))
    (rsRet (rdC (.bool false)))
    (rsNil))
  (rsSeq (rsSet 4 (rdCall f_Lring (rcCons (rdVar 1) (rcNil))))
  (rsSeq (rsIf (rtNot (rdTst (rdCall (f_Lsame 12) (rcCons (rdCall f_greatest_steps (rcCons (rdVar 1) (rcNil))) (rcCons (rdIf (rdTst (rdVar 4)) (rdC .none) (rdCB fMax (raCons (rdVar 3) (raNil)))) (rcNil))))))
    (rsRet (rdC (.bool false)))
    (rsNil))
  (rsSeq (rsFor (riRng1 (rdC (.int 8))) (rgName 5) w_Lis_told_2 [5, 6])
  (rsSeq (rsFor (riRng1 (rdC (.int 3))) (rgName 7) w_Lis_told_3 [7, 8, 9])
  (rsRet (rdCall (f_Lsame 12) (rcCons (rdCall f_least_steps (rcCons (rdVar 1) (rcNil))) (rcCons (rdIf (rdTst (rdBin fGt (rdLenV 3) (rdC (.int 0)))) (rdCB fMin (raCons (rdVar 3) (raNil))) (rdC .none)) (rcNil)))))))))))
def f_Lis_told : FnD := runF 11 b_Lis_told
theorem ok_Lis_told {fa : Addr} {fd : FuncData} (Fu : Fun K "_law_is_told" "_law_is_told" s_Lis_told fa fd) (hm : mg "_law_is_told" = some (.ref fa)) (T : Tx mg) (D_Lring : DFn P w K mg base "_law_ring" 2 1 f_Lring) (D_Lsame : DFn P w K mg base "_law_same" 13 2 (f_Lsame 12)) (D_Lended_rows : DFn P w K mg base "_law_ended_rows" 2 3 f_Lended_rows) (D_Lanswers : DFn P w K mg base "_law_answers" 2 2 f_Lanswers) (D_least_steps : DFn P w K mg base "least_steps" 4 1 f_least_steps) (D_greatest_steps : DFn P w K mg base "greatest_steps" 4 1 f_greatest_steps) (D_Ltake : DFn P w K mg base "_law_take" 1 2 f_Ltake) (D_steps_along : DFn P w K mg base "steps_along" 3 3 f_steps_along) (D_Lalong_row : DFn P w K mg base "_law_along_row" 2 3 f_Lalong_row) (D_rows_within : DFn P w K mg base "rows_within" 5 2 f_rows_within) (D_rows_open : DFn P w K mg base "rows_open" 5 2 f_rows_open) (D_Lopen_rows : DFn P w K mg base "_law_open_rows" 2 2 f_Lopen_rows) : DFn P w K mg base "_law_is_told" 14 2 f_Lis_told := by
  replace D_Lring := D_Lring.mono (show 2 ≤ 13 by omega)
  replace D_Lsame := D_Lsame.mono (show 13 ≤ 13 by omega)
  replace D_Lended_rows := D_Lended_rows.mono (show 2 ≤ 13 by omega)
  replace D_Lanswers := D_Lanswers.mono (show 2 ≤ 13 by omega)
  replace D_least_steps := D_least_steps.mono (show 4 ≤ 13 by omega)
  replace D_greatest_steps := D_greatest_steps.mono (show 4 ≤ 13 by omega)
  replace D_Ltake := D_Ltake.mono (show 1 ≤ 13 by omega)
  replace D_steps_along := D_steps_along.mono (show 3 ≤ 13 by omega)
  replace D_Lalong_row := D_Lalong_row.mono (show 2 ≤ 13 by omega)
  replace D_rows_within := D_rows_within.mono (show 5 ≤ 13 by omega)
  replace D_rows_open := D_rows_open.mono (show 5 ≤ 13 by omega)
  replace D_Lopen_rows := D_Lopen_rows.mono (show 2 ≤ 13 by omega)
  refine dfn_ok (k := 13) Fu hm (Fu.binds (ps := ["draws", "program"]) fun _ _ _ _ _ _ us hl => match us, hl with | [_, _], _ => rfl) sc_Lis_told rfl (by decide) ?_
  intro cdv A outer s H E hr
  have hu := hu65 hr
  exact ⟨_, ds_cons (d_set 2 (d_cb c_len T.len bt_len (da_cons (d_ixV 1 (d_int)) (da_nil))) sc_Lis_told.nd)
      (ds_cons (d_setLc 3 (d_lc0 (own := [("pair", 10)]) (di_seq (d_call D_Lended_rows hr (dc_cons (d_var 1) (dc_cons (d_var 2) (dc_cons (d_int) (dc_nil)))))) (fun _ _ _ _ _ => dg_name 10 sc_Lis_told.nd) (fun _ _ _ _ _ => d_ixV 10 (d_int))) sc_Lis_told.nd (sw_true rfl rfl rfl (by decide +kernel)))
      (ds_cons (d_ifS (d_tnot (d_tval (d_call D_Lsame hr (dc_cons (d_call D_least_steps hr (dc_cons (d_var 1) (dc_nil))) (dc_cons (d_if (d_tcmp (b_gt) (d_lenV 3 T.len) (d_int)) (d_cb c_min T.min bt_min (da_cons (d_var 3) (da_nil))) (d_non)) (dc_nil))))))
        (ds_one (d_ret (d_bl)))
        (ds_nil))
      (ds_cons (d_set 4 (d_call D_Lring hr (dc_cons (d_var 1) (dc_nil))) sc_Lis_told.nd)
      (ds_cons (d_ifS (d_tnot (d_tval (d_call D_Lsame hr (dc_cons (d_call D_greatest_steps hr (dc_cons (d_var 1) (dc_nil))) (dc_cons (d_if (d_tval (d_var 4)) (d_non) (d_cb c_max T.max bt_max (da_cons (d_var 3) (da_nil)))) (dc_nil))))))
        (ds_one (d_ret (d_bl)))
        (ds_nil))
      (ds_cons (d_for [5, 6] (di_rng1 (d_int) T.range) (dg_name 5 sc_Lis_told.nd)
        (ds_cons (d_set 6 (d_call D_Lended_rows hr (dc_cons (d_var 1) (dc_cons (d_var 5) (dc_cons (d_int) (dc_nil))))) sc_Lis_told.nd)
      (ds_one (d_ifS (d_tnot (d_tval (d_call D_Lsame hr (dc_cons (d_tup (da_cons (d_call D_rows_within hr (dc_cons (d_var 1) (dc_cons (d_var 5) (dc_nil)))) (da_cons (d_call D_rows_open hr (dc_cons (d_var 1) (dc_cons (d_var 5) (dc_nil)))) (da_nil)))) (dc_cons (d_tup (da_cons (d_lenV 6 T.len) (da_cons (d_call D_Lopen_rows hr (dc_cons (d_var 1) (dc_cons (d_var 5) (dc_nil)))) (da_nil)))) (dc_nil))))))
        (ds_one (d_ret (d_bl)))
        (ds_nil)))))
      (ds_cons (d_for [7, 8, 9] (di_rng1 (d_int) T.range) (dg_name 7 sc_Lis_told.nd)
        (ds_cons (d_set 8 (d_call D_Lanswers hr (dc_b 0 (dc_cons (d_int) (dc_nil)))) sc_Lis_told.nd)
      (ds_cons (d_set 9 (d_bin b_add (d_int) (d_call D_Ltake hr (dc_b 0 (dc_cons (d_int) (dc_nil))))) sc_Lis_told.nd)
      (ds_one (d_ifS (d_tnot (d_tval (d_call D_Lsame hr (dc_cons (d_call D_steps_along hr (dc_cons (d_var 1) (dc_cons (d_var 8) (dc_cons (d_var 9) (dc_nil))))) (dc_cons (d_call D_Lalong_row hr (dc_cons (d_var 1) (dc_cons (d_var 8) (dc_cons (d_var 9) (dc_nil))))) (dc_nil))))))
        (ds_one (d_ret (d_bl)))
        (ds_nil))))))
      (ds_one (d_ret (d_call D_Lsame hr (dc_cons (d_call D_least_steps hr (dc_cons (d_var 1) (dc_nil))) (dc_cons (d_if (d_tcmp (b_gt) (d_lenV 3 T.len) (d_int)) (d_cb c_min T.min bt_min (da_cons (d_var 3) (da_nil))) (d_non)) (dc_nil))))))))))))⟩
abbrev s_law : Stmt := top 33
theorem sc_law : FnScope ["script", "draws", "cell", "many", "program", "e", "some", "told", "back"] ["script"] (defScope s_law) := ⟨rfl, rfl, rfl, by decide +kernel, rfl, by decide +kernel, by decide +kernel⟩
def b_law : RS :=
  rsSeq (rsSet 1 (rdCall f_Ldraws (rcB 0 (rcCons (rdC (.int 300)) (rcNil)))))
  (rsSeq (rsSet 2 (rdCall f_Lcell (rcB 0 (rcNil))))
  (rsSeq (rsSet 3 (rdBin fAdd (rdC (.int 1)) (rdCall f_Ltake (rcB 1 (rcCons (rdC (.int 3)) (rcNil))))))
  (rsSeq (rsSet 4 (rdCall f_Lprogram (rcB 1 (rcCons (rdCall f_Ltake (rcB 1 (rcCons (rdBin fAdd (rdVar 3) (rdC (.int 1))) (rcNil)))) (rcCons (rdVar 3) (rcCons (rdBin fAdd (rdC (.int 1)) (rdCall f_Ltake (rcB 1 (rcCons (rdC (.int 6)) (rcNil))))) (rcCons (rdVar 2) (rcNil))))))))
  (rsSeq (rsIf (rtOr (rtNot (rdTst (rdCall f_Lis_told (rcB 1 (rcCons (rdVar 4) (rcNil)))))) (rtNot (rdTst (rdCall f_Lis_told (rcB 1 (rcCons (rdCall f_Lforward (rcB 1 (rcCons (rdVar 4) (rcNil)))) (rcNil)))))))
    (rsRet (rdC (.bool false)))
    (rsNil))
  (rsSeq (rsSet 5 (rdTup (raCons (rdC (.str "of")) (raCons (rdC (.int 0)) (raNil)))))
  (rsSeq (rsSet 6 (rdTup (raCons (rdC (.int 1)) (raCons (rdTup (raCons (rdTup (raCons (rdTup (raNil)) (raCons (rdTup (raCons (rdC (.str "test")) (raCons (rdVar 5) (raCons (rdC (.int 1)) (raCons (rdC (.int 2)) (raNil)))))) (raNil)))) (raCons (rdTup (raCons (rdTup (raNil)) (raCons (rdTup (raCons (rdC (.str "test")) (raCons (rdVar 5) (raCons (rdC (.int 3)) (raCons (rdC (.int 3)) (raNil)))))) (raNil)))) (raCons (rdTup (raCons (rdTup (raNil)) (raCons (rdTup (raCons (rdC (.str "goto")) (raCons (rdC (.int 3)) (raNil)))) (raNil)))) (raCons (rdTup (raCons (rdTup (raNil)) (raCons (rdTup (raCons (rdC (.str "end")) (raCons (rdVar 5) (raNil)))) (raNil)))) (raCons (rdTup (raCons (rdTup (raNil)) (raCons (rdTup (raCons (rdC (.str "goto")) (raCons (rdC (.int 4)) (raNil)))) (raNil)))) (raNil))))))) (raNil)))))
  (rsSeq (rsSet 7 (rdTup (raCons (rdCall f_least_steps (rcCons (rdVar 6) (rcNil))) (raCons (rdCall f_greatest_steps (rcCons (rdVar 6) (rcNil))) (raCons (rdCall f_rows_within (rcCons (rdVar 6) (rcCons (rdC (.int 2)) (rcNil)))) (raCons (rdCall f_rows_within (rcCons (rdVar 6) (rcCons (rdC (.int 3)) (rcNil)))) (raCons (rdCall f_rows_open (rcCons (rdVar 6) (rcCons (rdC (.int 1)) (rcNil)))) (raCons (rdCall f_rows_open (rcCons (rdVar 6) (rcCons (rdC (.int 2)) (rcNil)))) (raCons (rdCall f_rows_open (rcCons (rdVar 6) (rcCons (rdC (.int 0)) (rcNil)))) (raNil))))))))))
  (rsSeq (rsIf (rtNot (rdTst (rdCall (f_Lsame 12) (rcCons (rdVar 7) (rcCons (rdTup (raCons (rdC (.int 3)) (raCons (rdC (.int 3)) (raCons (rdC (.int 0)) (raCons (rdC (.int 3)) (raCons (rdC (.int 2)) (raCons (rdC (.int 3)) (raCons (rdC (.int 1)) (raNil))))))))) (rcNil))))))
    (rsRet (rdC (.bool false)))
    (rsNil))
  (rsSeq (rsSet 8 (rdTup (raCons (rdC (.int 1)) (raCons (rdTup (raCons (rdTup (raCons (rdTup (raNil)) (raCons (rdTup (raCons (rdC (.str "test")) (raCons (rdVar 5) (raCons (rdC (.int 0)) (raCons (rdC (.int 1)) (raNil)))))) (raNil)))) (raCons (rdTup (raCons (rdTup (raNil)) (raCons (rdTup (raCons (rdC (.str "end")) (raCons (rdVar 5) (raNil)))) (raNil)))) (raNil)))) (raNil)))))
  (rsSeq (rsSet 7 (rdTup (raCons (rdCall f_least_steps (rcCons (rdVar 8) (rcNil))) (raCons (rdCall f_greatest_steps (rcCons (rdVar 8) (rcNil))) (raCons (rdCall f_rows_within (rcCons (rdVar 8) (rcCons (rdC (.int 5)) (rcNil)))) (raCons (rdCall f_rows_open (rcCons (rdVar 8) (rcCons (rdC (.int 40)) (rcNil)))) (raCons (rdCall f_steps_along (rcCons (rdVar 8) (rcCons (rdTup (raCons (rdC (.int 1)) (raCons (rdC (.int 1)) (raNil)))) (rcCons (rdC (.int 9)) (rcNil))))) (raCons (rdCall f_steps_along (rcCons (rdVar 8) (rcCons (rdTup (raCons (rdC (.int 1)) (raCons (rdC (.int 1)) (raNil)))) (rcCons (rdC (.int 2)) (rcNil))))) (raCons (rdCall f_steps_along (rcCons (rdVar 8) (rcCons (rdTup (raCons (rdC (.int 1)) (raCons (rdC (.int 0)) (raCons (rdC (.int 1)) (raNil))))) (rcCons (rdC (.int 9)) (rcNil))))) (raNil))))))))))
  (rsSeq (rsIf (rtNot (rdTst (rdCall (f_Lsame 12) (rcCons (rdVar 7) (rcCons (rdTup (raCons (rdC (.int 2)) (raCons (rdC .none) (raCons (rdC (.int 4)) (raCons (rdC (.int 2)) (raCons (rdTup (raCons (rdC (.str "asks")) (raCons (rdC (.int 2)) (raNil)))) (raCons (rdTup (raCons (rdC (.str "open")) (raCons (rdC (.int 2)) (raNil)))) (raCons (rdTup (raCons (rdC (.str "ended")) (raCons (rdC (.int 3)) (raNil)))) (raNil))))))))) (rcNil))))))
    (rsRet (rdC (.bool false)))
    (rsNil))
  (rsRet (rdCall (f_Lsame 12) (rcCons (rdTup (raCons (rdCall f_least_steps (rcCons (rdTup (raCons (rdC (.int 0)) (raCons (rdTup (raCons (rdTup (raCons (rdTup (raNil)) (raCons (rdTup (raCons (rdC (.str "goto")) (raCons (rdC (.int 0)) (raNil)))) (raNil)))) (raNil))) (raNil)))) (rcNil))) (raCons (rdCall f_rows_within (rcCons (rdVar 8) (rcCons (rdC (.int 0)) (rcNil)))) (raCons (rdCall f_steps_along (rcCons (rdVar 8) (rcCons (rdTup (raNil)) (rcCons (rdC (.int 1)) (rcNil))))) (raNil))))) (rcCons (rdTup (raCons (rdC .none) (raCons (rdC (.int 0)) (raCons (rdTup (raCons (rdC (.str "asks")) (raCons (rdC (.int 0)) (raNil)))) (raNil))))) (rcNil))))))))))))))))
def f_law : FnD := runF 9 b_law
theorem ok_law {fa : Addr} {fd : FuncData} (Fu : Fun K "law" "law" s_law fa fd) (T : Tx mg) (D_Ldraws : DFn P w K mg base "_law_draws" 1 2 f_Ldraws) (D_Lcell : DFn P w K mg base "_law_cell" 1 1 f_Lcell) (D_Lprogram : DFn P w K mg base "_law_program" 6 5 f_Lprogram) (D_Lsame : DFn P w K mg base "_law_same" 13 2 (f_Lsame 12)) (D_Ltake : DFn P w K mg base "_law_take" 1 2 f_Ltake) (D_least_steps : DFn P w K mg base "least_steps" 4 1 f_least_steps) (D_greatest_steps : DFn P w K mg base "greatest_steps" 4 1 f_greatest_steps) (D_rows_within : DFn P w K mg base "rows_within" 5 2 f_rows_within) (D_rows_open : DFn P w K mg base "rows_open" 5 2 f_rows_open) (D_steps_along : DFn P w K mg base "steps_along" 3 3 f_steps_along) (D_Lis_told : DFn P w K mg base "_law_is_told" 14 2 f_Lis_told) (D_Lforward : DFn P w K mg base "_law_forward" 2 2 f_Lforward) : FnOk P w K mg base CX0 15 fa fd ["script"] (spD K 1 f_law) := by
  replace D_Ldraws := D_Ldraws.mono (show 1 ≤ 14 by omega)
  replace D_Lcell := D_Lcell.mono (show 1 ≤ 14 by omega)
  replace D_Lprogram := D_Lprogram.mono (show 6 ≤ 14 by omega)
  replace D_Lsame := D_Lsame.mono (show 13 ≤ 14 by omega)
  replace D_Ltake := D_Ltake.mono (show 1 ≤ 14 by omega)
  replace D_least_steps := D_least_steps.mono (show 4 ≤ 14 by omega)
  replace D_greatest_steps := D_greatest_steps.mono (show 4 ≤ 14 by omega)
  replace D_rows_within := D_rows_within.mono (show 5 ≤ 14 by omega)
  replace D_rows_open := D_rows_open.mono (show 5 ≤ 14 by omega)
  replace D_steps_along := D_steps_along.mono (show 3 ≤ 14 by omega)
  replace D_Lis_told := D_Lis_told.mono (show 14 ≤ 14 by omega)
  replace D_Lforward := D_Lforward.mono (show 2 ≤ 14 by omega)
  refine fnok_ok (k := 14) Fu sc_law rfl (by decide) ?_
  intro cdv A outer s H E hr
  have hu := hu65 hr
  exact ⟨_, ds_cons (d_set 1 (d_call D_Ldraws hr (dc_b 0 (dc_cons (d_int) (dc_nil)))) sc_law.nd)
      (ds_cons (d_set 2 (d_call D_Lcell hr (dc_b 0 (dc_nil))) sc_law.nd)
      (ds_cons (d_set 3 (d_bin b_add (d_int) (d_call D_Ltake hr (dc_b 1 (dc_cons (d_int) (dc_nil))))) sc_law.nd)
      (ds_cons (d_set 4 (d_call D_Lprogram hr (dc_b 1 (dc_cons (d_call D_Ltake hr (dc_b 1 (dc_cons (d_bin b_add (d_var 3) (d_int)) (dc_nil)))) (dc_cons (d_var 3) (dc_cons (d_bin b_add (d_int) (d_call D_Ltake hr (dc_b 1 (dc_cons (d_int) (dc_nil))))) (dc_cons (d_var 2) (dc_nil))))))) sc_law.nd)
      (ds_cons (d_ifS (d_tw (d_tor (d_tnot (d_tval (d_call D_Lis_told hr (dc_b 1 (dc_cons (d_var 4) (dc_nil)))))) (d_tor1 (d_tnot (d_tval (d_call D_Lis_told hr (dc_b 1 (dc_cons (d_call D_Lforward hr (dc_b 1 (dc_cons (d_var 4) (dc_nil)))) (dc_nil)))))))))
        (ds_one (d_ret (d_bl)))
        (ds_nil))
      (ds_cons (d_set 5 (d_tup (da_cons (d_str) (da_cons (d_int) (da_nil)))) sc_law.nd)
      (ds_cons (d_set 6 (d_tup (da_cons (d_int) (da_cons (d_tup (da_cons (d_tup (da_cons (d_tup (da_nil)) (da_cons (d_tup (da_cons (d_str) (da_cons (d_var 5) (da_cons (d_int) (da_cons (d_int) (da_nil)))))) (da_nil)))) (da_cons (d_tup (da_cons (d_tup (da_nil)) (da_cons (d_tup (da_cons (d_str) (da_cons (d_var 5) (da_cons (d_int) (da_cons (d_int) (da_nil)))))) (da_nil)))) (da_cons (d_tup (da_cons (d_tup (da_nil)) (da_cons (d_tup (da_cons (d_str) (da_cons (d_int) (da_nil)))) (da_nil)))) (da_cons (d_tup (da_cons (d_tup (da_nil)) (da_cons (d_tup (da_cons (d_str) (da_cons (d_var 5) (da_nil)))) (da_nil)))) (da_cons (d_tup (da_cons (d_tup (da_nil)) (da_cons (d_tup (da_cons (d_str) (da_cons (d_int) (da_nil)))) (da_nil)))) (da_nil))))))) (da_nil)))) sc_law.nd)
      (ds_cons (d_set 7 (d_tup (da_cons (d_call D_least_steps hr (dc_cons (d_var 6) (dc_nil))) (da_cons (d_call D_greatest_steps hr (dc_cons (d_var 6) (dc_nil))) (da_cons (d_call D_rows_within hr (dc_cons (d_var 6) (dc_cons (d_int) (dc_nil)))) (da_cons (d_call D_rows_within hr (dc_cons (d_var 6) (dc_cons (d_int) (dc_nil)))) (da_cons (d_call D_rows_open hr (dc_cons (d_var 6) (dc_cons (d_int) (dc_nil)))) (da_cons (d_call D_rows_open hr (dc_cons (d_var 6) (dc_cons (d_int) (dc_nil)))) (da_cons (d_call D_rows_open hr (dc_cons (d_var 6) (dc_cons (d_int) (dc_nil)))) (da_nil))))))))) sc_law.nd)
      (ds_cons (d_ifS (d_tnot (d_tval (d_call D_Lsame hr (dc_cons (d_var 7) (dc_cons (d_tup (da_cons (d_int) (da_cons (d_int) (da_cons (d_int) (da_cons (d_int) (da_cons (d_int) (da_cons (d_int) (da_cons (d_int) (da_nil))))))))) (dc_nil))))))
        (ds_one (d_ret (d_bl)))
        (ds_nil))
      (ds_cons (d_set 8 (d_tup (da_cons (d_int) (da_cons (d_tup (da_cons (d_tup (da_cons (d_tup (da_nil)) (da_cons (d_tup (da_cons (d_str) (da_cons (d_var 5) (da_cons (d_int) (da_cons (d_int) (da_nil)))))) (da_nil)))) (da_cons (d_tup (da_cons (d_tup (da_nil)) (da_cons (d_tup (da_cons (d_str) (da_cons (d_var 5) (da_nil)))) (da_nil)))) (da_nil)))) (da_nil)))) sc_law.nd)
      (ds_cons (d_set 7 (d_tup (da_cons (d_call D_least_steps hr (dc_cons (d_var 8) (dc_nil))) (da_cons (d_call D_greatest_steps hr (dc_cons (d_var 8) (dc_nil))) (da_cons (d_call D_rows_within hr (dc_cons (d_var 8) (dc_cons (d_int) (dc_nil)))) (da_cons (d_call D_rows_open hr (dc_cons (d_var 8) (dc_cons (d_int) (dc_nil)))) (da_cons (d_call D_steps_along hr (dc_cons (d_var 8) (dc_cons (d_tup (da_cons (d_int) (da_cons (d_int) (da_nil)))) (dc_cons (d_int) (dc_nil))))) (da_cons (d_call D_steps_along hr (dc_cons (d_var 8) (dc_cons (d_tup (da_cons (d_int) (da_cons (d_int) (da_nil)))) (dc_cons (d_int) (dc_nil))))) (da_cons (d_call D_steps_along hr (dc_cons (d_var 8) (dc_cons (d_tup (da_cons (d_int) (da_cons (d_int) (da_cons (d_int) (da_nil))))) (dc_cons (d_int) (dc_nil))))) (da_nil))))))))) sc_law.nd)
      (ds_cons (d_ifS (d_tnot (d_tval (d_call D_Lsame hr (dc_cons (d_var 7) (dc_cons (d_tup (da_cons (d_int) (da_cons (d_non) (da_cons (d_int) (da_cons (d_int) (da_cons (d_tup (da_cons (d_str) (da_cons (d_int) (da_nil)))) (da_cons (d_tup (da_cons (d_str) (da_cons (d_int) (da_nil)))) (da_cons (d_tup (da_cons (d_str) (da_cons (d_int) (da_nil)))) (da_nil))))))))) (dc_nil))))))
        (ds_one (d_ret (d_bl)))
        (ds_nil))
      (ds_one (d_ret (d_call D_Lsame hr (dc_cons (d_tup (da_cons (d_call D_least_steps hr (dc_cons (d_tup (da_cons (d_int) (da_cons (d_tup (da_cons (d_tup (da_cons (d_tup (da_nil)) (da_cons (d_tup (da_cons (d_str) (da_cons (d_int) (da_nil)))) (da_nil)))) (da_nil))) (da_nil)))) (dc_nil))) (da_cons (d_call D_rows_within hr (dc_cons (d_var 8) (dc_cons (d_int) (dc_nil)))) (da_cons (d_call D_steps_along hr (dc_cons (d_var 8) (dc_cons (d_tup (da_nil)) (dc_cons (d_int) (dc_nil))))) (da_nil))))) (dc_cons (d_tup (da_cons (d_non) (da_cons (d_int) (da_cons (d_tup (da_cons (d_str) (da_cons (d_int) (da_nil)))) (da_nil))))) (dc_nil)))))))))))))))))⟩
theorem all_mk {l : PySem.W.OpenLaw} {w : World} {K : PySem.W.Frag} {h : Heap} {mg : Str → Option Value} {fa fn0 fn1 fn2 fn3 fn4 fn5 fn6 fn7 fn8 fn9 fn10 fn11 fn12 fn13 fn14 fn15 fn16 fn17 fn18 fn19 fn20 fn21 fn22 fn23 fn24 fn25 fn26 fn27 fn28 fn29 fn30 : Addr} (X : K.In h) (G : h.Ns mainGlobals mg) (hfa : mg "law" = some (.ref fa))
    {od0 an0 od1 an1 od2 an2 od3 an3 od4 an4 od5 an5 od6 an6 od7 an7 od8 an8 od9 an9 od10 an10 od11 an11 od12 an12 od13 an13 od14 an14 od15 an15 od16 an16 od17 an17 od18 an18 od19 an19 od20 an20 od21 an21 od22 an22 od23 an23 od24 an24 od25 an25 od26 an26 od27 an27 od28 an28 od29 an29 od30 an30 : Option Addr} {sl0 sl1 sl2 sl3 sl4 sl5 sl6 sl7 sl8 sl9 sl10 sl11 sl12 sl13 sl14 sl15 sl16 sl17 sl18 sl19 sl20 sl21 sl22 sl23 sl24 sl25 sl26 sl27 sl28 sl29 sl30 : Array (Option Value)} {oc0 kV0 dc0 pm0 cd0 ct0 oc1 kV1 dc1 pm1 cd1 ct1 oc2 kV2 dc2 pm2 cd2 ct2 oc3 kV3 dc3 pm3 cd3 ct3 oc4 kV4 dc4 pm4 cd4 ct4 oc5 kV5 dc5 pm5 cd5 ct5 oc6 kV6 dc6 pm6 cd6 ct6 oc7 kV7 dc7 pm7 cd7 ct7 oc8 kV8 dc8 pm8 cd8 ct8 oc9 kV9 dc9 pm9 cd9 ct9 oc10 kV10 dc10 pm10 cd10 ct10 oc11 kV11 dc11 pm11 cd11 ct11 oc12 kV12 dc12 pm12 cd12 ct12 oc13 kV13 dc13 pm13 cd13 ct13 oc14 kV14 dc14 pm14 cd14 ct14 oc15 kV15 dc15 pm15 cd15 ct15 oc16 kV16 dc16 pm16 cd16 ct16 oc17 kV17 dc17 pm17 cd17 ct17 oc18 kV18 dc18 pm18 cd18 ct18 oc19 kV19 dc19 pm19 cd19 ct19 oc20 kV20 dc20 pm20 cd20 ct20 oc21 kV21 dc21 pm21 cd21 ct21 oc22 kV22 dc22 pm22 cd22 ct22 oc23 kV23 dc23 pm23 cd23 ct23 oc24 kV24 dc24 pm24 cd24 ct24 oc25 kV25 dc25 pm25 cd25 ct25 oc26 kV26 dc26 pm26 cd26 ct26 oc27 kV27 dc27 pm27 cd27 ct27 oc28 kV28 dc28 pm28 cd28 ct28 oc29 kV29 dc29 pm29 cd29 ct29 oc30 kV30 dc30 pm30 cd30 ct30 : Value}
    (a0 : PySem.W.nsIn K mainGlobals "goes_to" = some (some (.ref fn0))) (l0 : K.lookup fn0 = some ⟨oc0, od0, .func (PySem.W.fnOf "goes_to" "goes_to" (defArgs s_goes_to) (defBody s_goes_to) (defScope s_goes_to) .none kV0 dc0 pm0 an0 cd0 ct0), sl0⟩) (c0 : PySem.W.codeIn K cd0 "goes_to" = true) (k0 : PySem.W.keepIn K (.ref fn0) = true)
    (a1 : PySem.W.nsIn K mainGlobals "found_from" = some (some (.ref fn1))) (l1 : K.lookup fn1 = some ⟨oc1, od1, .func (PySem.W.fnOf "found_from" "found_from" (defArgs s_found_from) (defBody s_found_from) (defScope s_found_from) .none kV1 dc1 pm1 an1 cd1 ct1), sl1⟩) (c1 : PySem.W.codeIn K cd1 "found_from" = true) (k1 : PySem.W.keepIn K (.ref fn1) = true)
    (a2 : PySem.W.nsIn K mainGlobals "reached" = some (some (.ref fn2))) (l2 : K.lookup fn2 = some ⟨oc2, od2, .func (PySem.W.fnOf "reached" "reached" (defArgs s_reached) (defBody s_reached) (defScope s_reached) .none kV2 dc2 pm2 an2 cd2 ct2), sl2⟩) (c2 : PySem.W.codeIn K cd2 "reached" = true) (k2 : PySem.W.keepIn K (.ref fn2) = true)
    (a3 : PySem.W.nsIn K mainGlobals "ways_behind" = some (some (.ref fn3))) (l3 : K.lookup fn3 = some ⟨oc3, od3, .func (PySem.W.fnOf "ways_behind" "ways_behind" (defArgs s_ways_behind) (defBody s_ways_behind) (defScope s_ways_behind) .none kV3 dc3 pm3 an3 cd3 ct3), sl3⟩) (c3 : PySem.W.codeIn K cd3 "ways_behind" = true) (k3 : PySem.W.keepIn K (.ref fn3) = true)
    (a4 : PySem.W.nsIn K mainGlobals "fewest_steps" = some (some (.ref fn4))) (l4 : K.lookup fn4 = some ⟨oc4, od4, .func (PySem.W.fnOf "fewest_steps" "fewest_steps" (defArgs s_fewest_steps) (defBody s_fewest_steps) (defScope s_fewest_steps) .none kV4 dc4 pm4 an4 cd4 ct4), sl4⟩) (c4 : PySem.W.codeIn K cd4 "fewest_steps" = true) (k4 : PySem.W.keepIn K (.ref fn4) = true)
    (a5 : PySem.W.nsIn K mainGlobals "least_steps" = some (some (.ref fn5))) (l5 : K.lookup fn5 = some ⟨oc5, od5, .func (PySem.W.fnOf "least_steps" "least_steps" (defArgs s_least_steps) (defBody s_least_steps) (defScope s_least_steps) .none kV5 dc5 pm5 an5 cd5 ct5), sl5⟩) (c5 : PySem.W.codeIn K cd5 "least_steps" = true) (k5 : PySem.W.keepIn K (.ref fn5) = true)
    (a6 : PySem.W.nsIn K mainGlobals "greatest_of" = some (some (.ref fn6))) (l6 : K.lookup fn6 = some ⟨oc6, od6, .func (PySem.W.fnOf "greatest_of" "greatest_of" (defArgs s_greatest_of) (defBody s_greatest_of) (defScope s_greatest_of) .none kV6 dc6 pm6 an6 cd6 ct6), sl6⟩) (c6 : PySem.W.codeIn K cd6 "greatest_of" = true) (k6 : PySem.W.keepIn K (.ref fn6) = true)
    (a7 : PySem.W.nsIn K mainGlobals "greatest_steps" = some (some (.ref fn7))) (l7 : K.lookup fn7 = some ⟨oc7, od7, .func (PySem.W.fnOf "greatest_steps" "greatest_steps" (defArgs s_greatest_steps) (defBody s_greatest_steps) (defScope s_greatest_steps) .none kV7 dc7 pm7 an7 cd7 ct7), sl7⟩) (c7 : PySem.W.codeIn K cd7 "greatest_steps" = true) (k7 : PySem.W.keepIn K (.ref fn7) = true)
    (a8 : PySem.W.nsIn K mainGlobals "counts_behind" = some (some (.ref fn8))) (l8 : K.lookup fn8 = some ⟨oc8, od8, .func (PySem.W.fnOf "counts_behind" "counts_behind" (defArgs s_counts_behind) (defBody s_counts_behind) (defScope s_counts_behind) .none kV8 dc8 pm8 an8 cd8 ct8), sl8⟩) (c8 : PySem.W.codeIn K cd8 "counts_behind" = true) (k8 : PySem.W.keepIn K (.ref fn8) = true)
    (a9 : PySem.W.nsIn K mainGlobals "counts_after" = some (some (.ref fn9))) (l9 : K.lookup fn9 = some ⟨oc9, od9, .func (PySem.W.fnOf "counts_after" "counts_after" (defArgs s_counts_after) (defBody s_counts_after) (defScope s_counts_after) .none kV9 dc9 pm9 an9 cd9 ct9), sl9⟩) (c9 : PySem.W.codeIn K cd9 "counts_after" = true) (k9 : PySem.W.keepIn K (.ref fn9) = true)
    (a10 : PySem.W.nsIn K mainGlobals "rows_within" = some (some (.ref fn10))) (l10 : K.lookup fn10 = some ⟨oc10, od10, .func (PySem.W.fnOf "rows_within" "rows_within" (defArgs s_rows_within) (defBody s_rows_within) (defScope s_rows_within) .none kV10 dc10 pm10 an10 cd10 ct10), sl10⟩) (c10 : PySem.W.codeIn K cd10 "rows_within" = true) (k10 : PySem.W.keepIn K (.ref fn10) = true)
    (a11 : PySem.W.nsIn K mainGlobals "rows_open" = some (some (.ref fn11))) (l11 : K.lookup fn11 = some ⟨oc11, od11, .func (PySem.W.fnOf "rows_open" "rows_open" (defArgs s_rows_open) (defBody s_rows_open) (defScope s_rows_open) .none kV11 dc11 pm11 an11 cd11 ct11), sl11⟩) (c11 : PySem.W.codeIn K cd11 "rows_open" = true) (k11 : PySem.W.keepIn K (.ref fn11) = true)
    (a12 : PySem.W.nsIn K mainGlobals "steps_along" = some (some (.ref fn12))) (l12 : K.lookup fn12 = some ⟨oc12, od12, .func (PySem.W.fnOf "steps_along" "steps_along" (defArgs s_steps_along) (defBody s_steps_along) (defScope s_steps_along) .none kV12 dc12 pm12 an12 cd12 ct12), sl12⟩) (c12 : PySem.W.codeIn K cd12 "steps_along" = true) (k12 : PySem.W.keepIn K (.ref fn12) = true)
    (a13 : PySem.W.nsIn K mainGlobals "_law_draws" = some (some (.ref fn13))) (l13 : K.lookup fn13 = some ⟨oc13, od13, .func (PySem.W.fnOf "_law_draws" "_law_draws" (defArgs s_Ldraws) (defBody s_Ldraws) (defScope s_Ldraws) .none kV13 dc13 pm13 an13 cd13 ct13), sl13⟩) (c13 : PySem.W.codeIn K cd13 "_law_draws" = true) (k13 : PySem.W.keepIn K (.ref fn13) = true)
    (a14 : PySem.W.nsIn K mainGlobals "_law_take" = some (some (.ref fn14))) (l14 : K.lookup fn14 = some ⟨oc14, od14, .func (PySem.W.fnOf "_law_take" "_law_take" (defArgs s_Ltake) (defBody s_Ltake) (defScope s_Ltake) .none kV14 dc14 pm14 an14 cd14 ct14), sl14⟩) (c14 : PySem.W.codeIn K cd14 "_law_take" = true) (k14 : PySem.W.keepIn K (.ref fn14) = true)
    (a15 : PySem.W.nsIn K mainGlobals "_law_cell" = some (some (.ref fn15))) (l15 : K.lookup fn15 = some ⟨oc15, od15, .func (PySem.W.fnOf "_law_cell" "_law_cell" (defArgs s_Lcell) (defBody s_Lcell) (defScope s_Lcell) .none kV15 dc15 pm15 an15 cd15 ct15), sl15⟩) (c15 : PySem.W.codeIn K cd15 "_law_cell" = true) (k15 : PySem.W.keepIn K (.ref fn15) = true)
    (a16 : PySem.W.nsIn K mainGlobals "_law_thing" = some (some (.ref fn16))) (l16 : K.lookup fn16 = some ⟨oc16, od16, .func (PySem.W.fnOf "_law_thing" "_law_thing" (defArgs s_Lthing) (defBody s_Lthing) (defScope s_Lthing) .none kV16 dc16 pm16 an16 cd16 ct16), sl16⟩) (c16 : PySem.W.codeIn K cd16 "_law_thing" = true) (k16 : PySem.W.keepIn K (.ref fn16) = true)
    (a17 : PySem.W.nsIn K mainGlobals "_law_simple" = some (some (.ref fn17))) (l17 : K.lookup fn17 = some ⟨oc17, od17, .func (PySem.W.fnOf "_law_simple" "_law_simple" (defArgs s_Lsimple) (defBody s_Lsimple) (defScope s_Lsimple) .none kV17 dc17 pm17 an17 cd17 ct17), sl17⟩) (c17 : PySem.W.codeIn K cd17 "_law_simple" = true) (k17 : PySem.W.keepIn K (.ref fn17) = true)
    (a18 : PySem.W.nsIn K mainGlobals "_law_fall" = some (some (.ref fn18))) (l18 : K.lookup fn18 = some ⟨oc18, od18, .func (PySem.W.fnOf "_law_fall" "_law_fall" (defArgs s_Lfall) (defBody s_Lfall) (defScope s_Lfall) .none kV18 dc18 pm18 an18 cd18 ct18), sl18⟩) (c18 : PySem.W.codeIn K cd18 "_law_fall" = true) (k18 : PySem.W.keepIn K (.ref fn18) = true)
    (a19 : PySem.W.nsIn K mainGlobals "_law_build" = some (some (.ref fn19))) (l19 : K.lookup fn19 = some ⟨oc19, od19, .func (PySem.W.fnOf "_law_build" "_law_build" (defArgs s_Lbuild) (defBody s_Lbuild) (defScope s_Lbuild) .none kV19 dc19 pm19 an19 cd19 ct19), sl19⟩) (c19 : PySem.W.codeIn K cd19 "_law_build" = true) (k19 : PySem.W.keepIn K (.ref fn19) = true)
    (a20 : PySem.W.nsIn K mainGlobals "_law_program" = some (some (.ref fn20))) (l20 : K.lookup fn20 = some ⟨oc20, od20, .func (PySem.W.fnOf "_law_program" "_law_program" (defArgs s_Lprogram) (defBody s_Lprogram) (defScope s_Lprogram) .none kV20 dc20 pm20 an20 cd20 ct20), sl20⟩) (c20 : PySem.W.codeIn K cd20 "_law_program" = true) (k20 : PySem.W.keepIn K (.ref fn20) = true)
    (a21 : PySem.W.nsIn K mainGlobals "_law_same" = some (some (.ref fn21))) (l21 : K.lookup fn21 = some ⟨oc21, od21, .func (PySem.W.fnOf "_law_same" "_law_same" (defArgs s_Lsame) (defBody s_Lsame) (defScope s_Lsame) .none kV21 dc21 pm21 an21 cd21 ct21), sl21⟩) (c21 : PySem.W.codeIn K cd21 "_law_same" = true) (k21 : PySem.W.keepIn K (.ref fn21) = true)
    (a22 : PySem.W.nsIn K mainGlobals "_law_answers" = some (some (.ref fn22))) (l22 : K.lookup fn22 = some ⟨oc22, od22, .func (PySem.W.fnOf "_law_answers" "_law_answers" (defArgs s_Lanswers) (defBody s_Lanswers) (defScope s_Lanswers) .none kV22 dc22 pm22 an22 cd22 ct22), sl22⟩) (c22 : PySem.W.codeIn K cd22 "_law_answers" = true) (k22 : PySem.W.keepIn K (.ref fn22) = true)
    (a23 : PySem.W.nsIn K mainGlobals "_law_ways" = some (some (.ref fn23))) (l23 : K.lookup fn23 = some ⟨oc23, od23, .func (PySem.W.fnOf "_law_ways" "_law_ways" (defArgs s_Lways) (defBody s_Lways) (defScope s_Lways) .none kV23 dc23 pm23 an23 cd23 ct23), sl23⟩) (c23 : PySem.W.codeIn K cd23 "_law_ways" = true) (k23 : PySem.W.keepIn K (.ref fn23) = true)
    (a24 : PySem.W.nsIn K mainGlobals "_law_ended_rows" = some (some (.ref fn24))) (l24 : K.lookup fn24 = some ⟨oc24, od24, .func (PySem.W.fnOf "_law_ended_rows" "_law_ended_rows" (defArgs s_Lended_rows) (defBody s_Lended_rows) (defScope s_Lended_rows) .none kV24 dc24 pm24 an24 cd24 ct24), sl24⟩) (c24 : PySem.W.codeIn K cd24 "_law_ended_rows" = true) (k24 : PySem.W.keepIn K (.ref fn24) = true)
    (a25 : PySem.W.nsIn K mainGlobals "_law_ring" = some (some (.ref fn25))) (l25 : K.lookup fn25 = some ⟨oc25, od25, .func (PySem.W.fnOf "_law_ring" "_law_ring" (defArgs s_Lring) (defBody s_Lring) (defScope s_Lring) .none kV25 dc25 pm25 an25 cd25 ct25), sl25⟩) (c25 : PySem.W.codeIn K cd25 "_law_ring" = true) (k25 : PySem.W.keepIn K (.ref fn25) = true)
    (a26 : PySem.W.nsIn K mainGlobals "_law_forward" = some (some (.ref fn26))) (l26 : K.lookup fn26 = some ⟨oc26, od26, .func (PySem.W.fnOf "_law_forward" "_law_forward" (defArgs s_Lforward) (defBody s_Lforward) (defScope s_Lforward) .none kV26 dc26 pm26 an26 cd26 ct26), sl26⟩) (c26 : PySem.W.codeIn K cd26 "_law_forward" = true) (k26 : PySem.W.keepIn K (.ref fn26) = true)
    (a27 : PySem.W.nsIn K mainGlobals "_law_open_rows" = some (some (.ref fn27))) (l27 : K.lookup fn27 = some ⟨oc27, od27, .func (PySem.W.fnOf "_law_open_rows" "_law_open_rows" (defArgs s_Lopen_rows) (defBody s_Lopen_rows) (defScope s_Lopen_rows) .none kV27 dc27 pm27 an27 cd27 ct27), sl27⟩) (c27 : PySem.W.codeIn K cd27 "_law_open_rows" = true) (k27 : PySem.W.keepIn K (.ref fn27) = true)
    (a28 : PySem.W.nsIn K mainGlobals "_law_along_row" = some (some (.ref fn28))) (l28 : K.lookup fn28 = some ⟨oc28, od28, .func (PySem.W.fnOf "_law_along_row" "_law_along_row" (defArgs s_Lalong_row) (defBody s_Lalong_row) (defScope s_Lalong_row) .none kV28 dc28 pm28 an28 cd28 ct28), sl28⟩) (c28 : PySem.W.codeIn K cd28 "_law_along_row" = true) (k28 : PySem.W.keepIn K (.ref fn28) = true)
    (a29 : PySem.W.nsIn K mainGlobals "_law_is_told" = some (some (.ref fn29))) (l29 : K.lookup fn29 = some ⟨oc29, od29, .func (PySem.W.fnOf "_law_is_told" "_law_is_told" (defArgs s_Lis_told) (defBody s_Lis_told) (defScope s_Lis_told) .none kV29 dc29 pm29 an29 cd29 ct29), sl29⟩) (c29 : PySem.W.codeIn K cd29 "_law_is_told" = true) (k29 : PySem.W.keepIn K (.ref fn29) = true)
    (a30 : PySem.W.nsIn K mainGlobals "law" = some (some (.ref fn30))) (l30 : K.lookup fn30 = some ⟨oc30, od30, .func (PySem.W.fnOf "law" "law" (defArgs s_law) (defBody s_law) (defScope s_law) .none kV30 dc30 pm30 an30 cd30 ct30), sl30⟩) (c30 : PySem.W.codeIn K cd30 "law" = true) (k30 : PySem.W.keepIn K (.ref fn30) = true)
    (zlen : PySem.W.nsIn K mainGlobals "len" = some none)
    (zint : PySem.W.nsIn K mainGlobals "int" = some none)
    (ztup : PySem.W.nsIn K mainGlobals "tuple" = some none)
    (zlist : PySem.W.nsIn K mainGlobals "list" = some none)
    (zbool : PySem.W.nsIn K mainGlobals "bool" = some none)
    (zstr : PySem.W.nsIn K mainGlobals "str" = some none)
    (zmax : PySem.W.nsIn K mainGlobals "max" = some none)
    (zmin : PySem.W.nsIn K mainGlobals "min" = some none)
    (zsum : PySem.W.nsIn K mainGlobals "sum" = some none)
    (zsorted : PySem.W.nsIn K mainGlobals "sorted" = some none)
    (zall : PySem.W.nsIn K mainGlobals "all" = some none)
    (zany : PySem.W.nsIn K mainGlobals "any" = some none)
    (zisi : PySem.W.nsIn K mainGlobals "isinstance" = some none)
    (zrange : PySem.W.nsIn K mainGlobals "range" = some none)
    (zabs : PySem.W.nsIn K mainGlobals "abs" = some none)
    (zset : PySem.W.nsIn K mainGlobals "set" = some none)
    : ∃ fd : FuncData, (∀ (s : Shared) (v : Value), BindsTo s fd ⟨[v], []⟩ [("script", v)]) ∧ ∀ base : Heap, K.In base → base.Ns mainGlobals mg → FnOk l.prog w K mg base CX0 15 fa fd ["script"] (spD K 1 f_law) := by
  have e := hfa.symm.trans (PySem.W.mg_of X G a30)
  cases e
  have T : Tx mg := ⟨PySem.W.mg_none_of X G zlen, PySem.W.mg_none_of X G zint, PySem.W.mg_none_of X G ztup, PySem.W.mg_none_of X G zlist, PySem.W.mg_none_of X G zbool, PySem.W.mg_none_of X G zstr, PySem.W.mg_none_of X G zmax, PySem.W.mg_none_of X G zmin, PySem.W.mg_none_of X G zsum, PySem.W.mg_none_of X G zsorted, PySem.W.mg_none_of X G zall, PySem.W.mg_none_of X G zany, PySem.W.mg_none_of X G zisi, PySem.W.mg_none_of X G zrange, PySem.W.mg_none_of X G zabs, PySem.W.mg_none_of X G zset⟩
  refine ⟨PySem.W.fnOf "law" "law" (defArgs s_law) (defBody s_law) (defScope s_law) .none kV30 dc30 pm30 an30 cd30 ct30, fun s v => .of_eq rfl, fun base _ _ => ?_⟩
  have D_goes_to := ok_goes_to (P := l.prog) (w := w) (base := base) (fun_mk (st := s_goes_to) l0 c0 k0) (PySem.W.mg_of X G a0) T 
  have D_found_from := ok_found_from (P := l.prog) (w := w) (base := base) (fun_mk (st := s_found_from) l1 c1 k1) (PySem.W.mg_of X G a1) T D_goes_to
  have D_reached := ok_reached (P := l.prog) (w := w) (base := base) (fun_mk (st := s_reached) l2 c2 k2) (PySem.W.mg_of X G a2) T D_found_from
  have D_ways_behind := ok_ways_behind (P := l.prog) (w := w) (base := base) (fun_mk (st := s_ways_behind) l3 c3 k3) (PySem.W.mg_of X G a3) T D_goes_to
  have D_fewest_steps := ok_fewest_steps (P := l.prog) (w := w) (base := base) (fun_mk (st := s_fewest_steps) l4 c4 k4) (PySem.W.mg_of X G a4) T D_ways_behind
  have D_least_steps := ok_least_steps (P := l.prog) (w := w) (base := base) (fun_mk (st := s_least_steps) l5 c5 k5) (PySem.W.mg_of X G a5) T D_fewest_steps
  have D_greatest_of := ok_greatest_of (P := l.prog) (w := w) (base := base) (fun_mk (st := s_greatest_of) l6 c6 k6) (PySem.W.mg_of X G a6) T D_ways_behind
  have D_greatest_steps := ok_greatest_steps (P := l.prog) (w := w) (base := base) (fun_mk (st := s_greatest_steps) l7 c7 k7) (PySem.W.mg_of X G a7) T D_reached D_greatest_of
  have D_counts_behind := ok_counts_behind (P := l.prog) (w := w) (base := base) (fun_mk (st := s_counts_behind) l8 c8 k8) (PySem.W.mg_of X G a8) T D_ways_behind
  have D_counts_after := ok_counts_after (P := l.prog) (w := w) (base := base) (fun_mk (st := s_counts_after) l9 c9 k9) (PySem.W.mg_of X G a9) T D_counts_behind
  have D_rows_within := ok_rows_within (P := l.prog) (w := w) (base := base) (fun_mk (st := s_rows_within) l10 c10 k10) (PySem.W.mg_of X G a10) T D_counts_after
  have D_rows_open := ok_rows_open (P := l.prog) (w := w) (base := base) (fun_mk (st := s_rows_open) l11 c11 k11) (PySem.W.mg_of X G a11) T D_counts_after
  have D_steps_along := ok_steps_along (P := l.prog) (w := w) (base := base) (fun_mk (st := s_steps_along) l12 c12 k12) (PySem.W.mg_of X G a12) T D_ways_behind
  have D_Ldraws := ok_Ldraws (P := l.prog) (w := w) (base := base) (fun_mk (st := s_Ldraws) l13 c13 k13) (PySem.W.mg_of X G a13) T 
  have D_Ltake := ok_Ltake (P := l.prog) (w := w) (base := base) (fun_mk (st := s_Ltake) l14 c14 k14) (PySem.W.mg_of X G a14) T 
  have D_Lcell := ok_Lcell (P := l.prog) (w := w) (base := base) (fun_mk (st := s_Lcell) l15 c15 k15) (PySem.W.mg_of X G a15) T 
  have D_Lthing := ok_Lthing (P := l.prog) (w := w) (base := base) (fun_mk (st := s_Lthing) l16 c16 k16) (PySem.W.mg_of X G a16) T D_Ltake
  have D_Lsimple := ok_Lsimple (P := l.prog) (w := w) (base := base) (fun_mk (st := s_Lsimple) l17 c17 k17) (PySem.W.mg_of X G a17) T D_Lthing D_Ltake
  have D_Lfall := ok_Lfall (P := l.prog) (w := w) (base := base) (fun_mk (st := s_Lfall) l18 c18 k18) (PySem.W.mg_of X G a18) T D_Ltake D_Lsimple D_Lthing
  have D_Lbuild := ok_Lbuild (P := l.prog) (w := w) (base := base) (fun_mk (st := s_Lbuild) l19 c19 k19) (PySem.W.mg_of X G a19) T D_Ltake D_Lfall
  have D_Lprogram := ok_Lprogram (P := l.prog) (w := w) (base := base) (fun_mk (st := s_Lprogram) l20 c20 k20) (PySem.W.mg_of X G a20) T D_Ltake D_Lfall D_Lbuild
  have D_Lsame := ok_Lsame (P := l.prog) (w := w) (base := base) (fun_mk (st := s_Lsame) l21 c21 k21) (PySem.W.mg_of X G a21) T  12
  have D_Lanswers := ok_Lanswers (P := l.prog) (w := w) (base := base) (fun_mk (st := s_Lanswers) l22 c22 k22) (PySem.W.mg_of X G a22) T D_Ltake
  have D_Lways := ok_Lways (P := l.prog) (w := w) (base := base) (fun_mk (st := s_Lways) l23 c23 k23) (PySem.W.mg_of X G a23) T 
  have D_Lended_rows := ok_Lended_rows (P := l.prog) (w := w) (base := base) (fun_mk (st := s_Lended_rows) l24 c24 k24) (PySem.W.mg_of X G a24) T D_Lways
  have D_Lring := ok_Lring (P := l.prog) (w := w) (base := base) (fun_mk (st := s_Lring) l25 c25 k25) (PySem.W.mg_of X G a25) T D_Lways
  have D_Lforward := ok_Lforward (P := l.prog) (w := w) (base := base) (fun_mk (st := s_Lforward) l26 c26 k26) (PySem.W.mg_of X G a26) T D_Ltake
  have D_Lopen_rows := ok_Lopen_rows (P := l.prog) (w := w) (base := base) (fun_mk (st := s_Lopen_rows) l27 c27 k27) (PySem.W.mg_of X G a27) T D_Lways
  have D_Lalong_row := ok_Lalong_row (P := l.prog) (w := w) (base := base) (fun_mk (st := s_Lalong_row) l28 c28 k28) (PySem.W.mg_of X G a28) T D_Lways
  have D_Lis_told := ok_Lis_told (P := l.prog) (w := w) (base := base) (fun_mk (st := s_Lis_told) l29 c29 k29) (PySem.W.mg_of X G a29) T D_Lring D_Lsame D_Lended_rows D_Lanswers D_least_steps D_greatest_steps D_Ltake D_steps_along D_Lalong_row D_rows_within D_rows_open D_Lopen_rows
  exact ok_law (P := l.prog) (w := w) (base := base) (fun_mk (st := s_law) l30 c30 k30) T D_Ldraws D_Lcell D_Lprogram D_Lsame D_Ltake D_least_steps D_greatest_steps D_rows_within D_rows_open D_steps_along D_Lis_told D_Lforward
end
end K50

set_option Elab.async false
set_option linter.all false
set_option maxRecDepth 100000
set_option maxHeartbeats 4000000
/-! PU: the readings reckoned by simp: each is a bind onto a continuation of its own, so that nothing is unfolded ahead of its turn. -/
namespace DL
open PySem L2
section
variable {ρ ρ1 ρ2 : En} {t u v : RE} {s s1 s2 : S} {d d1 d2 : D} {c c' : RT} {a b : RS} {f : D → D → Option S} {i j : Nat} {o : Option S}
def kVar (i : Nat) (ρ : En) : Option (Option S) → Option (S × En)
  | some (some (.val d)) => some (.val d, ρ)
  | some (some (.own ds)) => some (.val (.list ds), ρ.set i (some (.val (.list ds))))
  | _ => none
theorem q_var : rdVar i ρ = kVar i ρ ρ[i]? := by
  unfold rdVar kVar
  split <;> first | rfl | (simp_all; done)
theorem q_var1 : kVar i ρ (some (some (.val d))) = some (.val d, ρ) := Eq.trans rfl rfl
theorem q_var2 {ds : List D} : kVar i ρ (some (some (.own ds))) = some (.val (.list ds), ρ.set i (some (.val (.list ds)))) := Eq.trans rfl rfl
def kMv (i : Nat) (ρ : En) : Option (Option S) → Option (S × En)
  | some (some (.val d)) => some (.val d, ρ)
  | some (some (.own ds)) => some (.own ds, ρ.set i none)
  | _ => none
theorem q_mv : rdMv i ρ = kMv i ρ ρ[i]? := by
  unfold rdMv kMv
  split <;> first | rfl | (simp_all; done)
theorem q_mv1 : kMv i ρ (some (some (.val d))) = some (.val d, ρ) := Eq.trans rfl rfl
theorem q_mv2 {ds : List D} : kMv i ρ (some (some (.own ds))) = some (.own ds, ρ.set i none) := Eq.trans rfl rfl
theorem q_c : rdC d ρ = some (.val d, ρ) := Eq.trans rfl rfl
def kPr (ρ : En) (s : S) : S × En := (s, ρ)
theorem q_pr : kPr ρ s = (s, ρ) := Eq.trans rfl rfl
def kBin1 (f : D → D → Option S) (t : RE) (p : S × En) : Option (S × En) := (t p.2).bind fun q => (f p.1.d q.1.d).map fun s => (s, q.2)
def kBin2 (f : D → D → Option S) (d : D) (q : S × En) : Option (S × En) := (f d q.1.d).map (kPr q.2)
theorem q_bin : rdBin f t u ρ = (t ρ).bind (kBin1 f u) := Eq.trans rfl rfl
theorem q_bin1 : kBin1 f u (s, ρ) = (u ρ).bind (kBin2 f s.d) := Eq.trans rfl rfl
theorem q_bin2 : kBin2 f d (s, ρ) = (f d s.d).map (kPr ρ) := Eq.trans rfl rfl
theorem q_dv : (S.val d).d = d := Eq.trans rfl rfl
theorem q_do {ds : List D} : (S.own ds).d = .list ds := Eq.trans rfl rfl
def kTst (p : S × En) : Option (Bool × En) := match p.1 with
  | .val (.bool b) => some (b, p.2)
  | _ => none
theorem q_tst : rdTst t ρ = (t ρ).bind kTst := Eq.trans rfl rfl
theorem q_tst1 {b : Bool} : kTst (.val (.bool b), ρ) = some (b, ρ) := Eq.trans rfl rfl
def kIsN (neg : Bool) (p : S × En) : S × En := (.val (.bool (match p.1.d with | .none => !neg | _ => neg)), p.2)
theorem q_isN {neg : Bool} : rdIsN neg t ρ = (t ρ).map (kIsN neg) := Eq.trans rfl rfl
theorem q_isN0 {neg : Bool} : kIsN neg (.val .none, ρ) = (.val (.bool (!neg)), ρ) := Eq.trans rfl rfl
theorem q_isN1 {neg : Bool} {k : Int} : kIsN neg (.val (.int k), ρ) = (.val (.bool neg), ρ) := Eq.trans rfl rfl
theorem q_isN2 {neg : Bool} {k : List D} : kIsN neg (.val (.tuple k), ρ) = (.val (.bool neg), ρ) := Eq.trans rfl rfl
theorem q_isN3 {neg : Bool} {k : Bool} : kIsN neg (.val (.bool k), ρ) = (.val (.bool neg), ρ) := Eq.trans rfl rfl
theorem q_isN4 {neg : Bool} {k : Str} : kIsN neg (.val (.str k), ρ) = (.val (.bool neg), ρ) := Eq.trans rfl rfl
theorem q_isN5 {neg : Bool} {k : List D} : kIsN neg (.val (.list k), ρ) = (.val (.bool neg), ρ) := Eq.trans rfl rfl
def kAnd (u : RT) (p : Bool × En) : Option (Bool × En) := if p.1 = true then u p.2 else some (false, p.2)
def kOr (u : RT) (p : Bool × En) : Option (Bool × En) := if p.1 = true then some (true, p.2) else u p.2
def kNot (p : Bool × En) : Bool × En := (!p.1, p.2)
theorem q_and : rtAnd c c' ρ = (c ρ).bind (kAnd c') := Eq.trans rfl rfl
theorem q_and1 : kAnd c (true, ρ) = c ρ := Eq.trans rfl rfl
theorem q_and2 : kAnd c (false, ρ) = some (false, ρ) := Eq.trans rfl rfl
theorem q_or : rtOr c c' ρ = (c ρ).bind (kOr c') := Eq.trans rfl rfl
theorem q_or1 : kOr c (true, ρ) = some (true, ρ) := Eq.trans rfl rfl
theorem q_or2 : kOr c (false, ρ) = c ρ := Eq.trans rfl rfl
theorem q_not : rtNot c ρ = (c ρ).map kNot := Eq.trans rfl rfl
theorem q_not1 {b : Bool} : kNot (b, ρ) = (!b, ρ) := Eq.trans rfl rfl
theorem q_yes : rtYes ρ = some (true, ρ) := Eq.trans rfl rfl
def kAndV (u : RE) (p : Bool × En) : Option (S × En) := if p.1 = true then u p.2 else some (.val (.bool false), p.2)
def kOrV (u : RE) (p : Bool × En) : Option (S × En) := if p.1 = true then some (.val (.bool true), p.2) else u p.2
def kNotV (p : Bool × En) : S × En := (.val (.bool (!p.1)), p.2)
theorem q_andV : rdAnd t u ρ = (rdTst t ρ).bind (kAndV u) := Eq.trans rfl rfl
theorem q_andV1 : kAndV u (true, ρ) = u ρ := Eq.trans rfl rfl
theorem q_andV2 : kAndV u (false, ρ) = some (.val (.bool false), ρ) := Eq.trans rfl rfl
theorem q_orV : rdOr t u ρ = (rdTst t ρ).bind (kOrV u) := Eq.trans rfl rfl
theorem q_orV1 : kOrV u (true, ρ) = some (.val (.bool true), ρ) := Eq.trans rfl rfl
theorem q_orV2 : kOrV u (false, ρ) = u ρ := Eq.trans rfl rfl
theorem q_notV : rdNot t ρ = (rdTst t ρ).map kNotV := Eq.trans rfl rfl
theorem q_notV1 {b : Bool} : kNotV (b, ρ) = (.val (.bool (!b)), ρ) := Eq.trans rfl rfl
def kIfE (t u : RE) (p : Bool × En) : Option (S × En) := if p.1 = true then t p.2 else u p.2
theorem q_ifE : rdIf c t u ρ = (c ρ).bind (kIfE t u) := Eq.trans rfl rfl
theorem q_ifE1 : kIfE t u (true, ρ) = t ρ := Eq.trans rfl rfl
theorem q_ifE2 : kIfE t u (false, ρ) = u ρ := Eq.trans rfl rfl
/-! displays -/
variable {w : RA}
def kCons1 (w : RA) (p : S × En) : Option (List D × En) := (w p.2).map fun q => (p.1.d :: q.1, q.2)
def kCons2 (d : D) (q : List D × En) : List D × En := (d :: q.1, q.2)
theorem q_nil : raNil ρ = some ([], ρ) := Eq.trans rfl rfl
theorem q_cons : raCons t w ρ = (t ρ).bind (kCons1 w) := Eq.trans rfl rfl
theorem q_cons1 : kCons1 w (s, ρ) = (w ρ).map (kCons2 s.d) := Eq.trans rfl rfl
theorem q_cons2 {ds : List D} : kCons2 d (ds, ρ) = (d :: ds, ρ) := Eq.trans rfl rfl
def kTup (p : List D × En) : S × En := (.val (.tuple p.1), p.2)
def kLst (p : List D × En) : S × En := (.own p.1, p.2)
theorem q_tup : rdTup w ρ = (w ρ).map kTup := Eq.trans rfl rfl
theorem q_tup1 {ds : List D} : kTup (ds, ρ) = (.val (.tuple ds), ρ) := Eq.trans rfl rfl
theorem q_lst : rdLst w ρ = (w ρ).map kLst := Eq.trans rfl rfl
theorem q_lst1 {ds : List D} : kLst (ds, ρ) = (.own ds, ρ) := Eq.trans rfl rfl
/-! built-ins -/
def kCB (f : List D → Option S) (p : List D × En) : Option (S × En) := (f p.1).map fun s => (s, p.2)
theorem q_cb {g : List D → Option S} : rdCB g w ρ = (w ρ).bind (kCB g) := Eq.trans rfl rfl
theorem q_cb1 {g : List D → Option S} {ds : List D} : kCB g (ds, ρ) = (g ds).map (kPr ρ) := Eq.trans rfl rfl
def kLenV (ρ : En) (ds : List D) : S × En := (.val (.int ds.length), ρ)
theorem q_lenV : rdLenV i ρ = (seqAt ρ i).map (kLenV ρ) := Eq.trans rfl rfl
theorem q_lenV1 {ds : List D} : kLenV ρ ds = (.val (.int ds.length), ρ) := Eq.trans rfl rfl
def kSeq : Option (Option S) → Option (List D)
  | some (some s) => s.seq
  | _ => none
theorem q_seq : seqAt ρ i = kSeq ρ[i]? := by
  unfold seqAt kSeq
  split <;> first | rfl | (simp_all; done)
theorem q_seq1 : kSeq (some (some s)) = s.seq := Eq.trans rfl rfl
theorem q_sl {ds : List D} : (S.val (.list ds)).seq = some ds := Eq.trans rfl rfl
theorem q_st {ds : List D} : (S.val (.tuple ds)).seq = some ds := Eq.trans rfl rfl
theorem q_so {ds : List D} : (S.own ds).seq = some ds := Eq.trans rfl rfl
theorem q_sb {ds : List D} : (S.bor ds).seq = some ds := Eq.trans rfl rfl
theorem q_sf {ds : List D} : (S.fro ds).seq = some ds := Eq.trans rfl rfl
def kMu : Option (Option S) → Option (List D)
  | some (some (.own ds)) => some ds
  | some (some (.bor ds)) => some ds
  | _ => none
theorem q_mu : muAt ρ i = kMu ρ[i]? := by
  unfold muAt kMu
  split <;> first | rfl | (simp_all; done)
theorem q_mu1 {ds : List D} : kMu (some (some (.own ds))) = some ds := Eq.trans rfl rfl
theorem q_mu2 {ds : List D} : kMu (some (some (.bor ds))) = some ds := Eq.trans rfl rfl
def kMuS (i : Nat) (ρ : En) (ds : List D) : Option (Option S) → En
  | some (some (.own _)) => ρ.set i (some (.own ds))
  | some (some (.bor _)) => ρ.set i (some (.bor ds))
  | _ => ρ
theorem q_muS {ds : List D} : muSet ρ i ds = kMuS i ρ ds ρ[i]? := by
  unfold muSet kMuS
  split <;> first | rfl | (simp_all; done)
theorem q_muS1 {ds es : List D} : kMuS i ρ ds (some (some (.own es))) = ρ.set i (some (.own ds)) := Eq.trans rfl rfl
theorem q_muS2 {ds es : List D} : kMuS i ρ ds (some (some (.bor es))) = ρ.set i (some (.bor ds)) := Eq.trans rfl rfl
def kApp1 (i : Nat) (t : RE) (ρ : En) (_ : List D) : Option (S × En) := (t ρ).bind fun p => (muAt p.2 i).bind fun ds => if ds.length < sizeLine then some (.val .none, muSet p.2 i (ds ++ [p.1.d])) else none
def kApp2 (i : Nat) (p : S × En) : Option (S × En) := (muAt p.2 i).bind fun ds => if ds.length < sizeLine then some (.val .none, muSet p.2 i (ds ++ [p.1.d])) else none
def kApp3 (i : Nat) (s : S) (ρ : En) (ds : List D) : Option (S × En) := if ds.length < sizeLine then some (.val .none, muSet ρ i (ds ++ [s.d])) else none
theorem q_app : rdApp i t ρ = (muAt ρ i).bind (kApp1 i t ρ) := Eq.trans rfl rfl
theorem q_app1 {ds : List D} : kApp1 i t ρ ds = (t ρ).bind (kApp2 i) := Eq.trans rfl rfl
theorem q_app2 : kApp2 i (s, ρ) = (muAt ρ i).bind (kApp3 i s ρ) := Eq.trans rfl rfl
theorem q_app3 {ds : List D} (h : ds.length < sizeLine) : kApp3 i s ρ ds = some (.val .none, muSet ρ i (ds ++ [s.d])) := by
  unfold kApp3
  rw [if_pos h]
def kPop (i : Nat) (ρ : En) (ds : List D) : Option (S × En) := (ds.getLast?).map fun d => (.val d, muSet ρ i ds.dropLast)
def kPop1 (i : Nat) (ρ : En) (ds : List D) (d : D) : S × En := (.val d, muSet ρ i ds.dropLast)
theorem q_pop : rdPop i ρ = (muAt ρ i).bind (kPop i ρ) := Eq.trans rfl rfl
theorem q_pop1 {ds : List D} : kPop i ρ (ds ++ [d]) = some (.val d, muSet ρ i ds) := by simp [kPop]
def kRev (i : Nat) (ρ : En) (ds : List D) : S × En := (.val .none, muSet ρ i ds.reverse)
theorem q_rev : rdRev i ρ = (muAt ρ i).map (kRev i ρ) := Eq.trans rfl rfl
theorem q_rev1 {ds : List D} : kRev i ρ ds = (.val .none, muSet ρ i ds.reverse) := Eq.trans rfl rfl
def kIsi (g : D → Bool) (p : S × En) : S × En := (.val (.bool (g p.1.d)), p.2)
theorem q_isi {T : String} {g : D → Bool} : rdIsi T g t ρ = (t ρ).map (kIsi g) := Eq.trans rfl rfl
theorem q_isi1 {g : D → Bool} : kIsi g (s, ρ) = (.val (.bool (g s.d)), ρ) := Eq.trans rfl rfl
def kInV (neg : Bool) (i : Nat) (p : S × En) : Option (S × En) := (seqAt p.2 i).bind fun ds => if SeqAt.shaped p.1.d = true ∧ SeqAt.shaped (.list ds) = true then some (.val (.bool (neg ^^ inD p.1.d ds)), p.2) else none
def kInV1 (neg : Bool) (s : S) (ρ : En) (ds : List D) : Option (S × En) := if SeqAt.shaped s.d = true ∧ SeqAt.shaped (.list ds) = true then some (.val (.bool (neg ^^ inD s.d ds)), ρ) else none
theorem q_inV {neg : Bool} : rdInV neg t i ρ = (t ρ).bind (kInV neg i) := Eq.trans rfl rfl
theorem q_inV1 {neg : Bool} : kInV neg i (s, ρ) = (seqAt ρ i).bind (kInV1 neg s ρ) := Eq.trans rfl rfl
theorem q_inV2 {neg : Bool} {ds : List D} (h1 : SeqAt.shaped s.d = true) (h2 : SeqAt.shaped (.list ds) = true) : kInV1 neg s ρ ds = some (.val (.bool (neg ^^ inD s.d ds)), ρ) := by
  unfold kInV1
  rw [if_pos ⟨h1, h2⟩]
def kIxV1 (i : Nat) (t : RE) (ρ : En) (_ : List D) : Option (S × En) := (t ρ).bind fun p => (seqAt p.2 i).bind fun ds => match p.1.d with
  | .int k => (atI ds k).map fun d => (.val d, p.2)
  | _ => none
def kIxV2 (i : Nat) (p : S × En) : Option (S × En) := (seqAt p.2 i).bind fun ds => match p.1.d with
  | .int k => (atI ds k).map fun d => (.val d, p.2)
  | _ => none
def kIxV3 (d : D) (ρ : En) (ds : List D) : Option (S × En) := match d with
  | .int k => (atI ds k).map fun d => (.val d, ρ)
  | _ => none
def kV (ρ : En) (d : D) : S × En := (.val d, ρ)
theorem q_kV : kV ρ d = (.val d, ρ) := Eq.trans rfl rfl
theorem q_ixV : rdIxV i t ρ = (seqAt ρ i).bind (kIxV1 i t ρ) := Eq.trans rfl rfl
theorem q_ixV1 {ds : List D} : kIxV1 i t ρ ds = (t ρ).bind (kIxV2 i) := Eq.trans rfl rfl
theorem q_ixV2 : kIxV2 i (s, ρ) = (seqAt ρ i).bind (kIxV3 s.d ρ) := Eq.trans rfl rfl
theorem q_ixV3 {ds : List D} {k : Int} : kIxV3 (.int k) ρ ds = (atI ds k).map (kV ρ) := Eq.trans rfl rfl
theorem q_ixL {ds : List D} {k : Int} : fIx (.list ds) (.int k) = (atI ds k).map S.val := Eq.trans rfl rfl
theorem q_ixT {ds : List D} {k : Int} : fIx (.tuple ds) (.int k) = (atI ds k).map S.val := Eq.trans rfl rfl
theorem q_fI {g : Int → Int → D} {k l : Int} : fI g (.int k) (.int l) = some (.val (g k l)) := Eq.trans rfl rfl
theorem q_fIc {C : Int → Int → Prop} [∀ i j, Decidable (C i j)] {g : Int → Int → D} {k l : Int} (h : C k l) : fIc C g (.int k) (.int l) = some (.val (g k l)) := by
  show (if C k l then some (S.val (g k l)) else none) = _
  rw [if_pos h]
theorem q_mod {k l : Int} (h : 0 < l) : fMod (.int k) (.int l) = some (.val (.int (k % l))) := q_fIc h
theorem q_addI {k l : Int} : fAdd (.int k) (.int l) = some (.val (.int (k + l))) := Eq.trans rfl rfl
theorem q_addL {xs ys : List D} (h : xs.length + ys.length ≤ sizeLine) : fAdd (.list xs) (.list ys) = some (.own (xs ++ ys)) := by
  show ((none : Option S).or ((if xs.length + ys.length ≤ sizeLine then some (.own (xs ++ ys)) else none).or none)) = _
  rw [if_pos h]
  rfl
theorem q_addT {xs ys : List D} (h : xs.length + ys.length ≤ sizeLine) : fAdd (.tuple xs) (.tuple ys) = some (.val (.tuple (xs ++ ys))) := by
  show ((none : Option S).or ((none : Option S).or (if xs.length + ys.length ≤ sizeLine then some (.val (.tuple (xs ++ ys))) else none))) = _
  rw [if_pos h]
  rfl
theorem q_eqI {neg : Bool} {k l : Int} : fEq neg (.int k) (.int l) = some (.val (.bool (neg ^^ (k == l)))) := Eq.trans rfl rfl
theorem q_eqS {neg : Bool} {k l : Str} : fEq neg (.str k) (.str l) = some (.val (.bool (neg ^^ (k == l)))) := Eq.trans rfl rfl
theorem q_eqB {neg : Bool} {k l : Bool} : fEq neg (.bool k) (.bool l) = some (.val (.bool (neg ^^ (k == l)))) := Eq.trans rfl rfl
theorem q_int {k : Int} : fInt [.int k] = some (.val (.int k)) := Eq.trans rfl rfl
theorem q_tupL {ds : List D} : fTuple [.list ds] = some (.val (.tuple ds)) := Eq.trans rfl rfl
theorem q_tupT {ds : List D} : fTuple [.tuple ds] = some (.val (.tuple ds)) := Eq.trans rfl rfl
theorem q_listL {ds : List D} : fList [.list ds] = some (.own ds) := Eq.trans rfl rfl
theorem q_listT {ds : List D} : fList [.tuple ds] = some (.own ds) := Eq.trans rfl rfl
theorem q_len1 {ds : List D} : fLen [.list ds] = some (.val (.int ds.length)) := Eq.trans rfl rfl
theorem q_len2 {ds : List D} : fLen [.tuple ds] = some (.val (.int ds.length)) := Eq.trans rfl rfl
def kNeg (p : S × En) : Option (S × En) := match p.1.d with
  | .int i => some (.val (.int (-i)), p.2)
  | _ => none
theorem q_neg : rdNeg t ρ = (t ρ).bind kNeg := Eq.trans rfl rfl
theorem q_neg1 {k : Int} : kNeg (.val (.int k), ρ) = some (.val (.int (-k)), ρ) := Eq.trans rfl rfl
/-! calls -/
variable {Fn : FnD} {g : RCa} {as : List Ar}
def kCall (Fn : FnD) (p : List Ar × En) : Option (S × En) := if (bIx p.1).Nodup then (arS p.2 p.1).bind fun ss => (Fn ss).bind fun r => (putB p.1 r.2 p.2).map fun ρ2 => (r.1, ρ2) else none
def kCall1 (Fn : FnD) (as : List Ar) (ρ : En) (ss : List S) : Option (S × En) := (Fn ss).bind fun r => (putB as r.2 ρ).map fun ρ2 => (r.1, ρ2)
def kCall2 (as : List Ar) (ρ : En) (r : S × En) : Option (S × En) := (putB as r.2 ρ).map fun ρ2 => (r.1, ρ2)
def kCall3 (s : S) (ρ : En) : S × En := (s, ρ)
theorem q_call : rdCall Fn g ρ = (g ρ).bind (kCall Fn) := Eq.trans rfl rfl
theorem q_call1 (h : (bIx as).Nodup) : kCall Fn (as, ρ) = (arS ρ as).bind (kCall1 Fn as ρ) := by
  unfold kCall
  rw [if_pos h]
  rfl
theorem q_call2 {ss : List S} : kCall1 Fn as ρ ss = (Fn ss).bind (kCall2 as ρ) := Eq.trans rfl rfl
theorem q_call3 {fin : En} : kCall2 as ρ (s, fin) = (putB as fin ρ).map (kCall3 s) := Eq.trans rfl rfl
theorem q_call4 : kCall3 s ρ = (s, ρ) := Eq.trans rfl rfl
def kcCons1 (g : RCa) (p : S × En) : Option (List Ar × En) := (g p.2).map fun q => (.d p.1.d :: q.1, q.2)
def kcCons2 (a : Ar) (q : List Ar × En) : List Ar × En := (a :: q.1, q.2)
theorem q_cnil : rcNil ρ = some ([], ρ) := Eq.trans rfl rfl
theorem q_ccons : rcCons t g ρ = (t ρ).bind (kcCons1 g) := Eq.trans rfl rfl
theorem q_ccons1 : kcCons1 g (s, ρ) = (g ρ).map (kcCons2 (.d s.d)) := Eq.trans rfl rfl
theorem q_ccons2 {a : Ar} : kcCons2 a (as, ρ) = (a :: as, ρ) := Eq.trans rfl rfl
def kcB (i : Nat) (g : RCa) (ρ : En) : Option (Option S) → Option (List Ar × En)
  | some (some _) => (g ρ).map (kcCons2 (.b i))
  | _ => none
theorem q_cb' : rcB i g ρ = kcB i g ρ ρ[i]? := by
  unfold rcB kcB
  split <;> first | rfl | (simp_all <;> rfl)
theorem q_cb'1 : kcB i g ρ (some (some s)) = (g ρ).map (kcCons2 (.b i)) := Eq.trans rfl rfl
def kArB (r : Option (List S)) : Option (Option S) → Option (List S)
  | some (some (.own ds)) => r.map (S.bor ds :: ·)
  | some (some (.bor ds)) => r.map (S.bor ds :: ·)
  | some (some (.fro ds)) => r.map (S.fro ds :: ·)
  | _ => none
theorem q_ar0 : arS ρ [] = some [] := Eq.trans rfl rfl
theorem q_ar1 : arS ρ (.d d :: as) = (arS ρ as).map (S.val d :: ·) := Eq.trans rfl rfl
theorem q_ar2 : arS ρ (.b i :: as) = kArB (arS ρ as) ρ[i]? := by
  show (match ρ[i]? with
    | some (some (.own ds)) => (arS ρ as).map (S.bor ds :: ·)
    | some (some (.bor ds)) => (arS ρ as).map (S.bor ds :: ·)
    | some (some (.fro ds)) => (arS ρ as).map (S.fro ds :: ·)
    | _ => none) = _
  unfold kArB
  split <;> first | rfl | (simp_all; done)
theorem q_ar3 {ds : List D} {r : Option (List S)} : kArB r (some (some (.own ds))) = r.map (S.bor ds :: ·) := Eq.trans rfl rfl
theorem q_ar4 {ds : List D} {r : Option (List S)} : kArB r (some (some (.bor ds))) = r.map (S.bor ds :: ·) := Eq.trans rfl rfl
theorem q_ar5 {ds : List D} {r : Option (List S)} : kArB r (some (some (.fro ds))) = r.map (S.fro ds :: ·) := Eq.trans rfl rfl
def kPutB (i : Nat) (as : List Ar) (fin ρ : En) : Option (Option S) → Option (Option S) → Option En
  | some (some (.own _)), some (some (.bor ds)) => putB as fin.tail (ρ.set i (some (.own ds)))
  | some (some (.bor _)), some (some (.bor ds)) => putB as fin.tail (ρ.set i (some (.bor ds)))
  | some (some (.fro _)), _ => putB as fin.tail ρ
  | _, _ => none
theorem q_put0 {fin : En} : putB [] fin ρ = some ρ := Eq.trans rfl rfl
theorem q_put1 {fin : En} : putB (.d d :: as) fin ρ = putB as fin.tail ρ := Eq.trans rfl rfl
theorem q_put2 {fin : En} : putB (.b i :: as) fin ρ = kPutB i as fin ρ ρ[i]? fin.head? := by
  show (match ρ[i]?, fin.head? with
    | some (some (.own _)), some (some (.bor ds)) => putB as fin.tail (ρ.set i (some (.own ds)))
    | some (some (.bor _)), some (some (.bor ds)) => putB as fin.tail (ρ.set i (some (.bor ds)))
    | some (some (.fro _)), _ => putB as fin.tail ρ
    | _, _ => none) = _
  unfold kPutB
  split <;> first | rfl | (simp_all; done)
theorem q_put3 {fin : En} {ds es : List D} : kPutB i as fin ρ (some (some (.own es))) (some (some (.bor ds))) = putB as fin.tail (ρ.set i (some (.own ds))) := Eq.trans rfl rfl
theorem q_put4 {fin : En} {ds es : List D} : kPutB i as fin ρ (some (some (.bor es))) (some (some (.bor ds))) = putB as fin.tail (ρ.set i (some (.bor ds))) := Eq.trans rfl rfl
theorem q_put5 {fin : En} {es : List D} {x : Option (Option S)} : kPutB i as fin ρ (some (some (.fro es))) x = putB as fin.tail ρ := by
  cases x with
  | none => rfl
  | some x => cases x with
    | none => rfl
    | some s => cases s <;> rfl
theorem q_bix0 : bIx [] = [] := Eq.trans rfl rfl
theorem q_bix1 : bIx (.d d :: as) = bIx as := Eq.trans rfl rfl
theorem q_bix2 : bIx (.b i :: as) = i :: bIx as := Eq.trans rfl rfl
/-! statements -/
def kSq (b : RS) : Out → Option Out
  | .nx ρ => b ρ
  | o => some o
theorem q_sq : rsSeq a b ρ = (a ρ).bind (kSq b) := Eq.trans rfl rfl
theorem q_sq1 : kSq b (.nx ρ) = b ρ := Eq.trans rfl rfl
theorem q_sq2 : kSq b (.rt s ρ) = some (.rt s ρ) := Eq.trans rfl rfl
theorem q_sq3 : kSq b (.bk ρ) = some (.bk ρ) := Eq.trans rfl rfl
theorem q_sq4 : kSq b (.ct ρ) = some (.ct ρ) := Eq.trans rfl rfl
theorem q_snil : rsNil ρ = some (.nx ρ) := Eq.trans rfl rfl
def kRet (p : S × En) : Out := .rt p.1 p.2
theorem q_ret : rsRet t ρ = (t ρ).map kRet := Eq.trans rfl rfl
theorem q_ret1 : kRet (s, ρ) = .rt s ρ := Eq.trans rfl rfl
def kExpr (p : S × En) : Out := .nx p.2
theorem q_expr : rsExpr t ρ = (t ρ).map kExpr := Eq.trans rfl rfl
theorem q_expr1 : kExpr (s, ρ) = .nx ρ := Eq.trans rfl rfl
def kIfS (a b : RS) (p : Bool × En) : Option Out := if p.1 = true then a p.2 else b p.2
theorem q_ifS : rsIf c a b ρ = (c ρ).bind (kIfS a b) := Eq.trans rfl rfl
theorem q_ifS1 : kIfS a b (true, ρ) = a ρ := Eq.trans rfl rfl
theorem q_ifS2 : kIfS a b (false, ρ) = b ρ := Eq.trans rfl rfl
def kSet (i : Nat) (p : S × En) : Out := .nx (p.2.set i (some p.1))
theorem q_set : rsSet i t ρ = (t ρ).map (kSet i) := Eq.trans rfl rfl
theorem q_set1 : kSet i (s, ρ) = .nx (ρ.set i (some s)) := Eq.trans rfl rfl
variable {rg : RG}
def kAsg (rg : RG) (p : S × En) : Option Out := (rg p.1.d p.2).map .nx
theorem q_asg : rsAsg t rg ρ = (t ρ).bind (kAsg rg) := Eq.trans rfl rfl
theorem q_asg1 : kAsg rg (s, ρ) = (rg s.d ρ).map .nx := Eq.trans rfl rfl
theorem q_gname : rgName i d ρ = some (ρ.set i (some (.val d))) := Eq.trans rfl rfl
theorem q_gtup {n : Nat} {ds : List D} {r : List D → En → Option En} (h : ds.length = n) : rgTup n r (.tuple ds) ρ = r ds ρ := by
  show (if ds.length = n then r ds ρ else none) = _
  rw [if_pos h]
theorem q_gnil : rgNil [] ρ = some ρ := Eq.trans rfl rfl
def kgC (r : List D → En → Option En) (ds : List D) (ρ : En) : Option En := r ds ρ
theorem q_gcons {ds : List D} {r : List D → En → Option En} : rgCons rg r (d :: ds) ρ = (rg d ρ).bind (kgC r ds) := Eq.trans rfl rfl
theorem q_gcons1 {ds : List D} {r : List D → En → Option En} : kgC r ds ρ = r ds ρ := Eq.trans rfl rfl
def kPar (i j : Nat) (p : List D × En) : Option Out := match p.1 with
  | [d, d'] => some (.nx ((p.2.set i (some (.val d))).set j (some (.val d'))))
  | _ => none
theorem q_par : rsPar i j w ρ = (w ρ).bind (kPar i j) := Eq.trans rfl rfl
theorem q_par1 {d d' : D} : kPar i j ([d, d'], ρ) = some (.nx ((ρ.set i (some (.val d))).set j (some (.val d')))) := Eq.trans rfl rfl
def kAug (i : Nat) (g : Int → Int → Int) (t : RE) (ρ : En) : Option (Option S) → Option Out
  | some (some (.val (.int k))) => (t ρ).bind fun p => (match p.1.d with
    | .int j => some (.nx (p.2.set i (some (.val (.int (g k j))))))
    | _ => none)
  | _ => none
def kAug1 (i : Nat) (g : Int → Int → Int) (k : Int) (p : S × En) : Option Out := match p.1.d with
    | .int j => some (.nx (p.2.set i (some (.val (.int (g k j))))))
    | _ => none
theorem q_aug {g : Int → Int → Int} : rsAug i g t ρ = kAug i g t ρ ρ[i]? := by
  unfold rsAug kAug
  split <;> first | rfl | (simp_all <;> rfl)
theorem q_aug1 {g : Int → Int → Int} {k : Int} : kAug i g t ρ (some (some (.val (.int k)))) = (t ρ).bind (kAug1 i g k) := Eq.trans rfl rfl
theorem q_aug2 {g : Int → Int → Int} {k l : Int} : kAug1 i g k (.val (.int l), ρ) = some (.nx (ρ.set i (some (.val (.int (g k l)))))) := Eq.trans rfl rfl
/-- what is behind a range, an iterable -/
def kRng1 (p : S × En) : Option (List D × En) := match p.1.d with
  | .int j => if -(2 ^ 62) ≤ j ∧ j < 2 ^ 62 then some (rng 0 j.toNat, p.2) else none
  | _ => none
theorem q_rng : riRng1 t ρ = (t ρ).bind kRng1 := Eq.trans rfl rfl
theorem q_rng1 {k : Int} (h : -(2 ^ 62) ≤ k ∧ k < 2 ^ 62) : kRng1 (.val (.int k), ρ) = some (rng 0 k.toNat, ρ) := by
  show (if -(2 ^ 62) ≤ k ∧ k < 2 ^ 62 then some (rng 0 k.toNat, ρ) else none) = _
  rw [if_pos h]
def kISeq (p : S × En) : Option (List D × En) := (seqD p.1.d).map fun ds => (ds, p.2)
def kP2 (ρ : En) (ds : List D) : List D × En := (ds, ρ)
theorem q_kP2 {ds : List D} : kP2 ρ ds = (ds, ρ) := Eq.trans rfl rfl
theorem q_iseq : riSeq t ρ = (t ρ).bind kISeq := Eq.trans rfl rfl
theorem q_iseq1 : kISeq (s, ρ) = (seqD s.d).map (kP2 ρ) := Eq.trans rfl rfl
theorem q_sd1 {ds : List D} : seqD (.list ds) = some ds := Eq.trans rfl rfl
theorem q_sd2 {ds : List D} : seqD (.tuple ds) = some ds := Eq.trans rfl rfl
def kFro (ρ : En) : Option (Option S) → Option (List D × En)
  | some (some (.fro ds)) => some (ds, ρ)
  | _ => none
theorem q_fro : riFro i ρ = kFro ρ ρ[i]? := by
  unfold riFro kFro
  split <;> first | rfl | (simp_all; done)
theorem q_fro1 {ds : List D} : kFro ρ (some (some (.fro ds))) = some (ds, ρ) := Eq.trans rfl rfl
variable {ks : List Nat} {it : RA}
def kFor (rg : RG) (b : RS) (ks : List Nat) (p : List D × En) : Option Out := forGo rg b ks p.1 (killE ks p.2)
theorem q_for : rsFor it rg b ks ρ = (it ρ).bind (kFor rg b ks) := Eq.trans rfl rfl
theorem q_for1 {ds : List D} : kFor rg b ks (ds, ρ) = forGo rg b ks ds (killE ks ρ) := Eq.trans rfl rfl
theorem q_k0 : killE [] ρ = ρ := Eq.trans rfl rfl
theorem q_k1 : killE (i :: ks) ρ = killE ks (ρ.set i none) := Eq.trans rfl rfl
theorem q_w0 : wipeE [] ρ = ρ := Eq.trans rfl rfl
theorem q_w1 : wipeE (i :: ks) ρ = (wipeE ks ρ).set i none := Eq.trans rfl rfl
/-- a comprehension -/
def kLc1 (rg : RG) (c : RT) (t : RE) (vs : List Nat) (p : List D × En) : Option (S × En) := if p.1.length ≤ sizeLine then (lcGo rg c t vs p.1 [] (wipeE vs p.2)).map fun q => (.own q.1, q.2) else none
def kLc2 (p : List D × En) : S × En := (.own p.1, p.2)
theorem q_lc : rdLc it rg c t ks ρ = (it ρ).bind (kLc1 rg c t ks) := Eq.trans rfl rfl
theorem q_lc1 {ds : List D} (h : ds.length ≤ sizeLine) : kLc1 rg c t ks (ds, ρ) = (lcGo rg c t ks ds [] (wipeE ks ρ)).map kLc2 := by
  unfold kLc1
  rw [if_pos h]
  rfl
theorem q_lc2 {ds : List D} : kLc2 (ds, ρ) = (.own ds, ρ) := Eq.trans rfl rfl
end
end DL

set_option Elab.async false
set_option linter.all false
set_option maxRecDepth 100000
set_option maxHeartbeats 4000000
namespace DL
open PySem L2
theorem bO_b {ds : List D} : bO (some (.bor ds)) = some (.bor ds) := Eq.trans rfl rfl
theorem bO_v {d : D} : bO (some (.val d)) = none := Eq.trans rfl rfl
theorem bO_n : bO none = none := Eq.trans rfl rfl
theorem bO_f {ds : List D} : bO (some (.fro ds)) = none := Eq.trans rfl rfl
theorem finB0 {ρ : En} : finB 0 ρ = [] := Eq.trans rfl rfl
theorem finB1 {n : Nat} {o : Option S} {ρ : En} : finB (n + 1) (o :: ρ) = bO o :: finB n ρ := Eq.trans rfl rfl
def kRun (n : Nat) : Option Out → Option (S × En)
  | some (.rt s ρ) => some (s, finB n ρ)
  | some (.nx ρ) => some (.val .none, finB n ρ)
  | _ => none
theorem q_run {m : Nat} {b : RS} {ss : List S} : runF m b ss = kRun ss.length (b (ss.map some ++ List.replicate (m - ss.length) none)) := by
  unfold runF kRun
  split <;> first | rfl | (simp_all; done)
theorem q_n0 {n : Nat} {s : S} {ρ : En} : kRun n (some (.rt s ρ)) = some (s, finB n ρ) := Eq.trans rfl rfl
theorem q_n1 {n : Nat} {ρ : En} : kRun n (some (.nx ρ)) = some (.val .none, finB n ρ) := Eq.trans rfl rfl
theorem at_cut {α : Type} {x : α} {xs : List α} {k : Int} (h : 1 ≤ k) : atI (x :: xs) k = atI xs (k - 1) := by
  unfold atI ixN
  rw [if_pos (show (0 : Int) ≤ k by omega), if_pos (show (0 : Int) ≤ k - 1 by omega)]
  by_cases h2 : k < (((x :: xs).length : Nat) : Int)
  · have h3 : k - 1 < ((xs.length : Nat) : Int) := by
      rw [List.length_cons] at h2
      omega
    rw [if_pos h2, if_pos h3]
    simp only [Option.bind_some]
    obtain ⟨n, hn⟩ : ∃ n : Nat, k.toNat = n + 1 := ⟨k.toNat - 1, by omega⟩
    rw [hn, show (k - 1).toNat = n by omega, List.getElem?_cons_succ]
  · have h3 : ¬ k - 1 < ((xs.length : Nat) : Int) := by
      rw [List.length_cons] at h2
      omega
    rw [if_neg h2, if_neg h3]
    rfl
theorem q_at0 {α : Type} {x : α} {xs : List α} : atI (x :: xs) 0 = some x := by
  unfold atI ixN
  rw [if_pos (Int.le_refl 0), if_pos (show (0 : Int) < (((x :: xs).length : Nat) : Int) by rw [List.length_cons]; omega)]
  rfl
theorem q_at1 {α : Type} {x y : α} {xs : List α} : atI (x :: y :: xs) 1 = some y := by
  rw [at_cut (by decide)]; exact q_at0
theorem q_at2 {α : Type} {x y z : α} {xs : List α} : atI (x :: y :: z :: xs) 2 = some z := by
  rw [at_cut (by decide)]; exact q_at1
theorem q_at3 {α : Type} {x y z w : α} {xs : List α} : atI (x :: y :: z :: w :: xs) 3 = some w := by
  rw [at_cut (by decide)]; exact q_at2
theorem at_nat {α : Type} {xs : List α} {k : Nat} {v : α} (h : xs[k]? = some v) : atI xs (k : Int) = some v := atI_nat h
theorem at_of {α : Type} {xs : List α} {i : Int} {k : Nat} {v : α} (hi : i = (k : Int)) (h : xs[k]? = some v) : atI xs i = some v := by
  rw [hi]; exact atI_nat h
theorem sz_le {n : Nat} (h : n ≤ 1000000) : n ≤ sizeLine := Nat.le_trans h (by decide)
theorem sz_lt {n : Nat} (h : n < 1000000) : n < sizeLine := Nat.lt_of_lt_of_le h (by decide)

/-! loops -/
/-- a for loop that never leaves: what holds from turn to turn -/
theorem for_inv {g : RG} {b : RS} {ks : List Nat} : ∀ {ds : List D} {ρ : En} (I : Nat → En → Prop) (n : Nat), I n ρ →
    (∀ (i : Nat) (d : D) (ρ : En), ds[i]? = some d → I (n + i) ρ → ∃ ρ1 ρ2, g d ρ = some ρ1 ∧ b ρ1 = some (.nx ρ2) ∧ I (n + i + 1) (killE ks ρ2)) →
    ∃ ρ', forGo g b ks ds ρ = some (.nx ρ') ∧ I (n + ds.length) ρ'
  | [], ρ, I, n, h0, _ => ⟨ρ, rfl, h0⟩
  | d :: ds, ρ, I, n, h0, hs => by
    obtain ⟨ρ1, ρ2, h1, h2, h3⟩ := hs 0 d ρ rfl h0
    obtain ⟨ρ', h4, h5⟩ := for_inv (ds := ds) I (n + 1) h3 fun i d' ρ e hi => by
      have := hs (i + 1) d' ρ (by simpa using e) (by rw [show n + (i + 1) = n + 1 + i by omega]; exact hi)
      rw [show n + (i + 1) + 1 = n + 1 + i + 1 by omega] at this
      exact this
    refine ⟨ρ', ?_, by rw [List.length_cons, show n + (ds.length + 1) = n + 1 + ds.length by omega]; exact h5⟩
    unfold forGo
    rw [h1]
    simp only [Option.bind_some]
    rw [h2]
    exact h4
/-- a for loop that may return -/
theorem for_ret {g : RG} {b : RS} {ks : List Nat} : ∀ {ds : List D} {ρ : En} (I : Nat → En → Prop) (R : S → En → Prop) (n : Nat), I n ρ →
    (∀ (i : Nat) (d : D) (ρ : En), ds[i]? = some d → I (n + i) ρ → ∃ ρ1, g d ρ = some ρ1 ∧ ((∃ ρ2, b ρ1 = some (.nx ρ2) ∧ I (n + i + 1) (killE ks ρ2)) ∨ (∃ s ρ2, b ρ1 = some (.rt s ρ2) ∧ R s ρ2))) →
    (∃ ρ', forGo g b ks ds ρ = some (.nx ρ') ∧ I (n + ds.length) ρ') ∨ (∃ s ρ', forGo g b ks ds ρ = some (.rt s ρ') ∧ R s ρ')
  | [], ρ, I, R, n, h0, _ => .inl ⟨ρ, rfl, h0⟩
  | d :: ds, ρ, I, R, n, h0, hs => by
    obtain ⟨ρ1, h1, h2⟩ := hs 0 d ρ rfl h0
    rcases h2 with ⟨ρ2, h2, h3⟩ | ⟨s, ρ2, h2, h3⟩
    · have := for_ret (ds := ds) (g := g) (b := b) (ks := ks) I R (n + 1) h3 fun i d' ρ e hi => by
        have := hs (i + 1) d' ρ (by simpa using e) (by rw [show n + (i + 1) = n + 1 + i by omega]; exact hi)
        rw [show n + (i + 1) + 1 = n + 1 + i + 1 by omega] at this
        exact this
      have e : forGo g b ks (d :: ds) ρ = forGo g b ks ds (killE ks ρ2) := by
        conv => lhs; unfold forGo
        rw [h1]
        simp only [Option.bind_some]
        rw [h2]
        rfl
      rw [e, List.length_cons, show n + (ds.length + 1) = n + 1 + ds.length by omega]
      exact this
    · refine .inr ⟨s, ρ2, ?_, h3⟩
      unfold forGo
      rw [h1]
      simp only [Option.bind_some]
      rw [h2]
      rfl
/-- a for loop as a fold over typed items and a typed state -/
theorem for_fold {α β : Type} {g : RG} {b : RS} {ks : List Nat} (enc : α → D) (env : β → En) (step : β → α → β) (P : β → Prop) (A : α → Prop) : ∀ (as : List α) (x : β), P x → (∀ a ∈ as, A a) →
    (∀ (x : β) (a : α), P x → A a → P (step x a) ∧ ∃ ρ1 ρ2, g (enc a) (env x) = some ρ1 ∧ b ρ1 = some (.nx ρ2) ∧ killE ks ρ2 = env (step x a)) →
    forGo g b ks (as.map enc) (env x) = some (.nx (env (as.foldl step x))) ∧ P (as.foldl step x)
  | [], x, hx, _, _ => ⟨rfl, hx⟩
  | a :: as, x, hx, ha, hs => by
    obtain ⟨h0, ρ1, ρ2, h1, h2, h3⟩ := hs x a hx (ha a (by simp))
    have := for_fold (g := g) (b := b) (ks := ks) enc env step P A as (step x a) h0 (fun a h => ha a (by simp [h])) hs
    refine ⟨?_, this.2⟩
    rw [List.map_cons]
    unfold forGo
    rw [h1]
    simp only [Option.bind_some]
    rw [h2]
    show forGo g b ks (as.map enc) (killE ks ρ2) = _
    rw [h3]
    exact this.1
/-- a comprehension over typed items, nothing changing -/
theorem lc_map {α : Type} {g : RG} {t : RE} {vs : List Nat} (enc : α → D) (f : α → D) {ρ : En} : ∀ (as : List α) (acc : List D), (∀ a ∈ as, ∃ ρ1 s ρ2, g (enc a) ρ = some ρ1 ∧ t ρ1 = some (s, ρ2) ∧ s.d = f a ∧ wipeE vs ρ2 = ρ) →
    lcGo g rtYes t vs (as.map enc) acc ρ = some (acc ++ as.map f, ρ)
  | [], acc, _ => by simp [lcGo]
  | a :: as, acc, h => by
    obtain ⟨ρ1, s, ρ2, h1, h2, h3, h4⟩ := h a (by simp)
    rw [List.map_cons]
    unfold lcGo
    rw [h1]
    simp only [Option.bind_some, rtYes, if_true]
    rw [h2]
    simp only [Option.bind_some]
    rw [h3, h4, lc_map enc f as _ fun a h' => h a (by simp [h'])]
    simp
/-- .. with a test -/
theorem lc_filter {α : Type} {g : RG} {c : RT} {t : RE} {vs : List Nat} (enc : α → D) (p : α → Bool) (f : α → D) {ρ : En} : ∀ (as : List α) (acc : List D),
    (∀ a ∈ as, ∃ ρ1 ρ2, g (enc a) ρ = some ρ1 ∧ c ρ1 = some (p a, ρ2) ∧ (p a = false → wipeE vs ρ2 = ρ) ∧ (p a = true → ∃ s ρ3, t ρ2 = some (s, ρ3) ∧ s.d = f a ∧ wipeE vs ρ3 = ρ)) →
    lcGo g c t vs (as.map enc) acc ρ = some (acc ++ (as.filter p).map f, ρ)
  | [], acc, _ => by simp [lcGo]
  | a :: as, acc, h => by
    obtain ⟨ρ1, ρ2, h1, h2, h3, h4⟩ := h a (by simp)
    have ih := fun acc => lc_filter (g := g) (c := c) (t := t) (vs := vs) enc p f as acc fun a h' => h a (by simp [h'])
    rw [List.map_cons]
    unfold lcGo
    rw [h1]
    simp only [Option.bind_some]
    rw [h2]
    simp only [Option.bind_some]
    cases hp : p a with
    | true =>
      obtain ⟨s, ρ3, h5, h6, h7⟩ := h4 hp
      simp only [if_true]
      rw [h5]
      simp only [Option.bind_some]
      rw [h6, h7, ih]
      simp [List.filter_cons, hp]
    | false =>
      simp only [Bool.false_eq_true, if_false]
      rw [h3 hp, ih]
      simp [List.filter_cons, hp]
/-- a comprehension through which a state goes -/
theorem lc_state {α : Type} {g : RG} {t : RE} {vs : List Nat} (enc : α → D) (I : Nat → List D → En → Prop) : ∀ (as : List α) (acc : List D) (ρ : En) (n : Nat), I n acc ρ →
    (∀ (i : Nat) (a : α) (acc : List D) (ρ : En), as[i]? = some a → I (n + i) acc ρ → ∃ ρ1 s ρ2, g (enc a) ρ = some ρ1 ∧ t ρ1 = some (s, ρ2) ∧ I (n + i + 1) (acc ++ [s.d]) (wipeE vs ρ2)) →
    ∃ acc' ρ', lcGo g rtYes t vs (as.map enc) acc ρ = some (acc', ρ') ∧ I (n + as.length) acc' ρ'
  | [], acc, ρ, n, h0, _ => ⟨acc, ρ, rfl, h0⟩
  | a :: as, acc, ρ, n, h0, h => by
    obtain ⟨ρ1, s, ρ2, h1, h2, h3⟩ := h 0 a acc ρ rfl h0
    obtain ⟨acc', ρ', h4, h5⟩ := lc_state (g := g) (t := t) (vs := vs) enc I as (acc ++ [s.d]) (wipeE vs ρ2) (n + 1) h3 fun i a' acc ρ e hi => by
      have := h (i + 1) a' acc ρ (by simpa using e) (by rw [show n + (i + 1) = n + 1 + i by omega]; exact hi)
      rw [show n + (i + 1) + 1 = n + 1 + i + 1 by omega] at this
      exact this
    refine ⟨acc', ρ', ?_, by rw [List.length_cons, show n + (as.length + 1) = n + 1 + as.length by omega]; exact h5⟩
    rw [List.map_cons]
    unfold lcGo
    rw [h1]
    simp only [Option.bind_some, rtYes, if_true]
    rw [h2]
    exact h4
theorem rng_get {lo : Int} {n i : Nat} {d : D} (h : (rng lo n)[i]? = some d) : i < n ∧ d = .int (lo + (i : Nat)) := by
  have hi : i < n := by
    have := (List.getElem?_eq_some_iff.mp h).1
    rw [rng_len] at this
    exact this
  refine ⟨hi, ?_⟩
  unfold rng at h
  rw [List.getElem?_map, List.getElem?_range hi] at h
  exact (Option.some.inj h).symm
theorem rng_map (lo : Int) (n : Nat) : rng lo n = (List.range n).map fun k => PyData.int (lo + (k : Nat)) := rfl
theorem q_callI {Fn : FnD} {as : List Ar} {ρ : En} : kCall Fn (as, ρ) = if (bIx as).Nodup then (arS ρ as).bind (kCall1 Fn as ρ) else none := Eq.trans rfl rfl
theorem q_bs {α β : Type} {a : α} {f : α → Option β} : (some a).bind f = f a := Eq.trans rfl rfl
theorem q_bn {α β : Type} {f : α → Option β} : (none : Option α).bind f = none := Eq.trans rfl rfl
theorem q_ms {α β : Type} {a : α} {f : α → β} : (some a).map f = some (f a) := Eq.trans rfl rfl
theorem q_mn {α β : Type} {f : α → β} : (none : Option α).map f = none := Eq.trans rfl rfl
theorem q_g0 {α : Type} {a : α} {l : List α} : (a :: l)[0]? = some a := Eq.trans rfl rfl
theorem q_gs {α : Type} {a : α} {l : List α} {i : Nat} : (a :: l)[i + 1]? = l[i]? := Eq.trans rfl rfl
theorem q_s0 {α : Type} {a b : α} {l : List α} : (a :: l).set 0 b = b :: l := Eq.trans rfl rfl
theorem q_ss {α : Type} {a b : α} {l : List α} {i : Nat} : (a :: l).set (i + 1) b = a :: l.set i b := Eq.trans rfl rfl
end DL

set_option Elab.async false
set_option linter.all false
set_option maxRecDepth 100000
set_option maxHeartbeats 4000000
namespace DL
open PySem L2
/-! shapes: how deep data nests -/
def Sh (k : Nat) (d : D) : Prop := d.canLay0 = true ∧ d.depth ≤ k
theorem Sh.mono {k l : Nat} {d : D} (h : Sh k d) (hl : k ≤ l) : Sh l d := ⟨h.1, Nat.le_trans h.2 hl⟩
theorem sh_int (i : Int) : Sh 0 (.int i) := ⟨by simp [PyData.canLay0], by simp [PyData.depth]⟩
theorem sh_non : Sh 0 .none := ⟨by simp [PyData.canLay0], by simp [PyData.depth]⟩
theorem sh_bool (b : Bool) : Sh 0 (.bool b) := ⟨by simp [PyData.canLay0], by simp [PyData.depth]⟩
theorem sh_str {x : Str} (h : PyData.strOk x = true) : Sh 0 (.str x) := ⟨by simpa [PyData.canLay0] using h, by simp [PyData.depth]⟩
theorem sh_all {k : Nat} : ∀ {ds : List D}, (∀ d ∈ ds, Sh k d) → PyData.canLayAll0 ds = true ∧ PyData.depthAll ds ≤ k
  | [], _ => ⟨by simp [PyData.canLayAll0], by simp [PyData.depthAll]⟩
  | d :: ds, h => by
    obtain ⟨h1, h2⟩ := sh_all (ds := ds) fun x hx => h x (by simp [hx])
    obtain ⟨h3, h4⟩ := h d (by simp)
    exact ⟨by simp [PyData.canLayAll0, h1, h3], by simp only [PyData.depthAll]; omega⟩
theorem sh_list {k : Nat} {ds : List D} (h : ∀ d ∈ ds, Sh k d) : Sh (k + 1) (.list ds) := by
  obtain ⟨h1, h2⟩ := sh_all h
  exact ⟨by simpa [PyData.canLay0] using h1, by simp only [PyData.depth]; omega⟩
theorem sh_tup {k : Nat} {ds : List D} (h : ∀ d ∈ ds, Sh k d) : Sh (k + 1) (.tuple ds) := by
  obtain ⟨h1, h2⟩ := sh_all h
  exact ⟨by simpa [PyData.canLay0] using h1, by simp only [PyData.depth]; omega⟩
theorem Sh.shaped {k : Nat} {d : D} (h : Sh k d) (hk : k ≤ 64 := by decide) : SeqAt.shaped d = true := by
  unfold SeqAt.shaped
  rw [h.1, Bool.true_and]
  exact decide_eq_true (Nat.le_trans h.2 hk)
theorem q_fin {neg : Bool} {d : D} {ds : List D} (h1 : SeqAt.shaped d = true) (h2 : SeqAt.shaped (.list ds) = true) : fIn neg d (.list ds) = some (.val (.bool (neg ^^ inD d ds))) := by
  show (if SeqAt.shaped d = true ∧ SeqAt.shaped (.list ds) = true then some (S.val (.bool (neg ^^ inD d ds))) else none) = _
  rw [if_pos ⟨h1, h2⟩]
theorem q_finT {neg : Bool} {d : D} {ds : List D} (h1 : SeqAt.shaped d = true) (h2 : SeqAt.shaped (.list ds) = true) : fIn neg d (.tuple ds) = some (.val (.bool (neg ^^ inD d ds))) := by
  show (if SeqAt.shaped d = true ∧ SeqAt.shaped (.list ds) = true then some (S.val (.bool (neg ^^ inD d ds))) else none) = _
  rw [if_pos ⟨h1, h2⟩]
/-! loops over written items, turn by turn -/
variable {g : RG} {b : RS} {c : RT} {t : RE} {ks vs : List Nat} {ρ : En} {d : D} {ds acc : List D} {s : S}
def kFg2 (g : RG) (b : RS) (ks : List Nat) (ds : List D) : Out → Option Out
  | .nx ρ2 => forGo g b ks ds (killE ks ρ2)
  | .ct ρ2 => forGo g b ks ds (killE ks ρ2)
  | .bk ρ2 => some (.nx (killE ks ρ2))
  | .rt s ρ2 => some (.rt s ρ2)
def kFg1 (g : RG) (b : RS) (ks : List Nat) (ds : List D) (ρ1 : En) : Option Out := (b ρ1).bind (kFg2 g b ks ds)
theorem q_fg0 : forGo g b ks [] ρ = some (.nx ρ) := Eq.trans rfl rfl
theorem q_fg1 : forGo g b ks (d :: ds) ρ = (g d ρ).bind (kFg1 g b ks ds) := by
  conv => lhs; unfold forGo
  cases g d ρ with
  | none => rfl
  | some ρ1 =>
    simp only [Option.bind_some]
    unfold kFg1
    cases b ρ1 with
    | none => rfl
    | some o => cases o <;> rfl
theorem q_fg2 : kFg1 g b ks ds ρ = (b ρ).bind (kFg2 g b ks ds) := Eq.trans rfl rfl
theorem q_fg3 : kFg2 g b ks ds (.nx ρ) = forGo g b ks ds (killE ks ρ) := Eq.trans rfl rfl
theorem q_fg4 : kFg2 g b ks ds (.ct ρ) = forGo g b ks ds (killE ks ρ) := Eq.trans rfl rfl
theorem q_fg5 : kFg2 g b ks ds (.bk ρ) = some (.nx (killE ks ρ)) := Eq.trans rfl rfl
theorem q_fg6 : kFg2 g b ks ds (.rt s ρ) = some (.rt s ρ) := Eq.trans rfl rfl
def kLg3 (g : RG) (c : RT) (t : RE) (vs : List Nat) (ds acc : List D) (q : S × En) : Option (List D × En) := lcGo g c t vs ds (acc ++ [q.1.d]) (wipeE vs q.2)
def kLg2 (g : RG) (c : RT) (t : RE) (vs : List Nat) (ds acc : List D) (p : Bool × En) : Option (List D × En) := if p.1 = true then (t p.2).bind (kLg3 g c t vs ds acc) else lcGo g c t vs ds acc (wipeE vs p.2)
def kLg1 (g : RG) (c : RT) (t : RE) (vs : List Nat) (ds acc : List D) (ρ1 : En) : Option (List D × En) := (c ρ1).bind (kLg2 g c t vs ds acc)
theorem q_lg0 : lcGo g c t vs [] acc ρ = some (acc, ρ) := Eq.trans rfl rfl
theorem q_lg1 : lcGo g c t vs (d :: ds) acc ρ = (g d ρ).bind (kLg1 g c t vs ds acc) := by
  conv => lhs; unfold lcGo
  rfl
theorem q_lg2 : kLg1 g c t vs ds acc ρ = (c ρ).bind (kLg2 g c t vs ds acc) := Eq.trans rfl rfl
theorem q_lg3 : kLg2 g c t vs ds acc (true, ρ) = (t ρ).bind (kLg3 g c t vs ds acc) := Eq.trans rfl rfl
theorem q_lg4 : kLg2 g c t vs ds acc (false, ρ) = lcGo g c t vs ds acc (wipeE vs ρ) := Eq.trans rfl rfl
theorem q_lg5 : kLg3 g c t vs ds acc (s, ρ) = lcGo g c t vs ds (acc ++ [s.d]) (wipeE vs ρ) := Eq.trans rfl rfl
theorem q_lcI {rg : RG} {ks : List Nat} : kLc1 rg c t ks (ds, ρ) = if ds.length ≤ sizeLine then (lcGo rg c t ks ds [] (wipeE ks ρ)).map kLc2 else none := Eq.trans rfl rfl
theorem rng0 (n : Nat) : rng 0 n = (List.range n).map fun (k : Nat) => PyData.int (k : Int) := by
  unfold rng
  apply List.map_congr_left
  intro k _
  rw [Int.zero_add]
theorem rng1 (n : Nat) : rng 1 n = (List.range n).map fun (k : Nat) => PyData.int ((k + 1 : Nat) : Int) := by
  unfold rng
  apply List.map_congr_left
  intro k _
  congr 1
  omega
/-! places -/
def kSub1 (i : Nat) (tk : RE) (p : S × En) : Option Out := (muAt p.2 i).bind fun _ => (tk p.2).bind fun q => (muAt q.2 i).bind fun ds => match q.1.d with
  | .int k => (ixN ds.length k).map fun j => .nx (muSet q.2 i (ds.set j p.1.d))
  | _ => none
def kSub2 (i : Nat) (tk : RE) (d : D) (ρ : En) (_ : List D) : Option Out := (tk ρ).bind fun q => (muAt q.2 i).bind fun ds => match q.1.d with
  | .int k => (ixN ds.length k).map fun j => .nx (muSet q.2 i (ds.set j d))
  | _ => none
def kSub3 (i : Nat) (d : D) (q : S × En) : Option Out := (muAt q.2 i).bind fun ds => match q.1.d with
  | .int k => (ixN ds.length k).map fun j => .nx (muSet q.2 i (ds.set j d))
  | _ => none
def kSub4 (i : Nat) (d k : D) (ρ : En) (ds : List D) : Option Out := match k with
  | .int k => (ixN ds.length k).map fun j => .nx (muSet ρ i (ds.set j d))
  | _ => none
def kSub5 (i : Nat) (d : D) (ρ : En) (ds : List D) (j : Nat) : Out := .nx (muSet ρ i (ds.set j d))
theorem q_sub {i : Nat} {tk : RE} : rsSub i tk t ρ = (t ρ).bind (kSub1 i tk) := Eq.trans rfl rfl
theorem q_sub1 {i : Nat} {tk : RE} : kSub1 i tk (s, ρ) = (muAt ρ i).bind (kSub2 i tk s.d ρ) := Eq.trans rfl rfl
theorem q_sub2 {i : Nat} {tk : RE} : kSub2 i tk d ρ ds = (tk ρ).bind (kSub3 i d) := Eq.trans rfl rfl
theorem q_sub3 {i : Nat} : kSub3 i d (s, ρ) = (muAt ρ i).bind (kSub4 i d s.d ρ) := Eq.trans rfl rfl
theorem q_sub4 {i : Nat} {k : Int} : kSub4 i d (.int k) ρ ds = (ixN ds.length k).map (kSub5 i d ρ ds) := Eq.trans rfl rfl
theorem q_sub5 {i j : Nat} : kSub5 i d ρ ds j = .nx (muSet ρ i (ds.set j d)) := Eq.trans rfl rfl
theorem ix_nat {n k : Nat} (h : k < n) : ixN n (k : Int) = some k := by
  unfold ixN
  rw [if_pos (by omega), if_pos (by omega), Int.toNat_natCast]
theorem q_augS {i : Nat} {gg : Int → Int → Int} {tk : RE} {ρ1 ρ2 ρ3 : En} {ds0 ds1 ds2 : List D} {k z y : Int} {j : Nat} (h0 : muAt ρ i = some ds0) (h1 : tk ρ = some (.val (.int k), ρ1)) (h2 : muAt ρ1 i = some ds1) (h3 : atI ds1 k = some (.int z))
    (h4 : t ρ1 = some (.val (.int y), ρ2)) (h5 : muAt ρ2 i = some ds2) (h6 : ixN ds2.length k = some j) : rsAugS i gg tk t ρ = some (.nx (muSet ρ2 i (ds2.set j (.int (gg z y))))) := by
  unfold rsAugS
  rw [h0]
  simp only [Option.bind_some]
  rw [h1]
  simp only [Option.bind_some, S.d]
  rw [h2]
  simp only [Option.bind_some]
  rw [h3]
  simp only
  rw [h4]
  simp only [Option.bind_some, S.d]
  rw [h5]
  simp only [Option.bind_some]
  rw [h6]
  rfl
theorem q_rep {k : Nat} (h : (k : Int) < 2 ^ 63) (h2 : 1 * k ≤ sizeLine) : fRep (.list [d]) (.int (k : Int)) = some (.own (List.replicate k d)) := by
  have e : (List.replicate k [d]).flatten = List.replicate k d := by
    induction k with
    | zero => rfl
    | succ k ih => rw [List.replicate_succ, List.flatten_cons, ih (by omega) (by omega)]; rfl
  simp only [fRep]
  rw [if_pos ⟨h, by omega, by rw [Int.toNat_natCast]; simpa using h2⟩, Int.toNat_natCast, e]
def kRng2a (u : RE) (p : S × En) : Option (List D × En) := (u p.2).bind fun q => match p.1.d, q.1.d with
  | .int i, .int j => if -(2 ^ 62) ≤ i ∧ i < 2 ^ 62 ∧ -(2 ^ 62) ≤ j ∧ j < 2 ^ 62 then some (rng i (j - i).toNat, q.2) else none
  | _, _ => none
def kRng2b (d : D) (q : S × En) : Option (List D × En) := match d, q.1.d with
  | .int i, .int j => if -(2 ^ 62) ≤ i ∧ i < 2 ^ 62 ∧ -(2 ^ 62) ≤ j ∧ j < 2 ^ 62 then some (rng i (j - i).toNat, q.2) else none
  | _, _ => none
theorem q_rng2 {u : RE} : riRng2 t u ρ = (t ρ).bind (kRng2a u) := Eq.trans rfl rfl
theorem q_rng2a {u : RE} : kRng2a u (s, ρ) = (u ρ).bind (kRng2b s.d) := Eq.trans rfl rfl
theorem q_rng2b {i j : Int} (h : -(2 ^ 62) ≤ i ∧ i < 2 ^ 62 ∧ -(2 ^ 62) ≤ j ∧ j < 2 ^ 62) : kRng2b (.int i) (.val (.int j), ρ) = some (rng i (j - i).toNat, ρ) := by
  show (if -(2 ^ 62) ≤ i ∧ i < 2 ^ 62 ∧ -(2 ^ 62) ≤ j ∧ j < 2 ^ 62 then some (rng i (j - i).toNat, ρ) else none) = _
  rw [if_pos h]
theorem wh_step {u : RT} {n : Nat} {ρ1 ρ2 : En} (h1 : u ρ = some (true, ρ1)) (h2 : b ρ1 = some (.nx ρ2)) : whGo u b ks (n + 1) ρ = whGo u b ks n (killE ks ρ2) := by
  conv => lhs; unfold whGo
  rw [h1]
  simp only [Option.bind_some, if_true]
  rw [h2]
  rfl
theorem wh_end {u : RT} {n : Nat} {ρ1 : En} (h1 : u ρ = some (false, ρ1)) : whGo u b ks (n + 1) ρ = some (.nx (killE ks ρ1)) := by
  conv => lhs; unfold whGo
  rw [h1]
  rfl
section
variable {i : Nat} {gg : Int → Int → Int} {tk : RE} {d0 : D}
def kAS7 (i : Nat) (d : D) (ρ : En) (ds : List D) (j : Nat) : Out := .nx (muSet ρ i (ds.set j d))
def kAS6 (i : Nat) (d : D) (k : Int) (ρ : En) (ds : List D) : Option Out := (ixN ds.length k).map (kAS7 i d ρ ds)
def kAS5 (i : Nat) (gg : Int → Int → Int) (k z : Int) (p : S × En) : Option Out := (muAt p.2 i).bind fun ds => (match p.1.d with
  | .int y => kAS6 i (.int (gg z y)) k p.2 ds
  | _ => none)
def kAS5' (i : Nat) (gg : Int → Int → Int) (k z : Int) (d : D) (ρ : En) (ds : List D) : Option Out := match d with
  | .int y => kAS6 i (.int (gg z y)) k ρ ds
  | _ => none
def kAS4 (i : Nat) (gg : Int → Int → Int) (t : RE) (k : Int) (ρ : En) : Option D → Option Out
  | some (.int z) => (t ρ).bind (kAS5 i gg k z)
  | _ => none
def kAS3 (i : Nat) (gg : Int → Int → Int) (t : RE) (d : D) (ρ : En) (ds : List D) : Option Out := match d with
  | .int k => kAS4 i gg t k ρ (atI ds k)
  | _ => none
def kAS2 (i : Nat) (gg : Int → Int → Int) (t : RE) (p : S × En) : Option Out := (muAt p.2 i).bind (kAS3 i gg t p.1.d p.2)
def kAS1 (i : Nat) (gg : Int → Int → Int) (tk t : RE) (ρ : En) (_ : List D) : Option Out := (tk ρ).bind (kAS2 i gg t)
theorem q_aS : rsAugS i gg tk t ρ = (muAt ρ i).bind (kAS1 i gg tk t ρ) := by
  unfold rsAugS
  cases muAt ρ i with
  | none => rfl
  | some d0 =>
    simp only [Option.bind_some]
    unfold kAS1
    cases tk ρ with
    | none => rfl
    | some q =>
      simp only [Option.bind_some]
      unfold kAS2
      cases muAt q.2 i with
      | none => rfl
      | some ds1 =>
        simp only [Option.bind_some]
        unfold kAS3
        cases q.1.d <;> first
          | rfl
          | (simp only []
             unfold kAS4
             split <;> first | rfl | (simp_all <;> rfl))
theorem q_aS1 {l : List D} : kAS1 i gg tk t ρ l = (tk ρ).bind (kAS2 i gg t) := Eq.trans rfl rfl
theorem q_aS2 : kAS2 i gg t (s, ρ) = (muAt ρ i).bind (kAS3 i gg t s.d ρ) := Eq.trans rfl rfl
theorem q_aS3 {k : Int} {l : List D} : kAS3 i gg t (.int k) ρ l = kAS4 i gg t k ρ (atI l k) := Eq.trans rfl rfl
theorem q_aS4 {k z : Int} : kAS4 i gg t k ρ (some (.int z)) = (t ρ).bind (kAS5 i gg k z) := Eq.trans rfl rfl
theorem q_aS5 {k z : Int} : kAS5 i gg k z (s, ρ) = (muAt ρ i).bind (kAS5' i gg k z s.d ρ) := Eq.trans rfl rfl
theorem q_aS5' {k z y : Int} {l : List D} : kAS5' i gg k z (.int y) ρ l = (ixN l.length k).map (kAS7 i (.int (gg z y)) ρ l) := Eq.trans rfl rfl
theorem q_aS7 {l : List D} {j : Nat} : kAS7 i d ρ l j = .nx (muSet ρ i (l.set j d)) := Eq.trans rfl rfl
end
end DL

set_option Elab.async false
set_option linter.all false
set_option maxRecDepth 100000
set_option maxHeartbeats 4000000
namespace K50
open PySem L2 DL
/-! draws: a pile of ints, the next one first -/
def E (dr : List Int) : List D := (dr.map PyData.int).reverse
def tk (dr : List Int) (n : Int) : Int := match dr with
  | [] => 0
  | x :: _ => x % n
theorem E_cons (x : Int) (dr : List Int) : E (x :: dr) = E dr ++ [.int x] := by simp [E]
theorem E_len (dr : List Int) : (E dr).length = dr.length := by simp [E]
theorem tk_nn (dr : List Int) {n : Int} (h : 0 < n) : 0 ≤ tk dr n ∧ tk dr n < n := by
  cases dr with
  | nil => exact ⟨Int.le_refl 0, h⟩
  | cons x r => exact ⟨Int.emod_nonneg _ (by omega), Int.emod_lt_of_pos _ h⟩
theorem take_eq (dr : List Int) (n : Int) (h : 0 < n) : f_Ltake [.bor (E dr), .val (.int n)] = some (.val (.int (tk dr n)), [some (.bor (E dr.tail)), none]) := by
  unfold f_Ltake b_Ltake
  cases dr with
  | nil =>
    simp only [q_var, q_var1, q_var2, q_mv, q_mv1, q_mv2, q_c, q_pr, q_bin, q_bin1, q_bin2, q_dv, q_do, q_tst, q_tst1, q_isN, q_isN0, q_isN1, q_isN2, q_isN3, q_isN4, q_isN5, q_and, q_and1, q_and2, q_or, q_or1, q_or2, q_not, q_not1, q_yes, q_andV, q_andV1, q_andV2, q_orV, q_orV1, q_orV2, q_notV, q_notV1, q_ifE, q_ifE1, q_ifE2, q_nil, q_cons, q_cons1, q_cons2, q_tup, q_tup1, q_lst, q_lst1, q_cb, q_cb1, q_lenV, q_lenV1, q_seq, q_seq1, q_sl, q_st, q_so, q_sb, q_sf, q_mu, q_mu1, q_mu2, q_muS, q_muS1, q_muS2, q_app, q_app1, q_app2, q_pop, q_pop1, q_rev, q_rev1, q_isi, q_isi1, q_inV, q_inV1, q_ixV, q_ixV1, q_ixV2, q_ixV3, q_ixL, q_ixT, q_kV, q_fI, q_addI, q_eqI, q_eqS, q_eqB, q_int, q_tupL, q_tupT, q_listL, q_listT, q_len1, q_len2, q_neg, q_neg1, q_call, q_call2, q_call3, q_call4, q_cnil, q_ccons, q_ccons1, q_ccons2, q_cb', q_cb'1, q_ar0, q_ar1, q_ar2, q_ar3, q_ar4, q_ar5, q_put0, q_put1, q_put2, q_put3, q_put4, q_put5, q_bix0, q_bix1, q_bix2, q_sq, q_sq1, q_sq2, q_sq3, q_sq4, q_snil, q_ret, q_ret1, q_expr, q_expr1, q_ifS, q_ifS1, q_ifS2, q_set, q_set1, q_asg, q_asg1, q_gname, q_gnil, q_gcons, q_gcons1, q_par, q_par1, q_aug, q_aug1, q_aug2, q_rng, q_iseq, q_iseq1, q_sd1, q_sd2, q_kP2, q_fro, q_fro1, q_for, q_for1, q_k0, q_k1, q_w0, q_w1, q_lc, q_lc2, q_n1, q_n0, q_run, bO_b, bO_v, bO_n, finB0, finB1, q_at0, q_at1, q_at2, q_at3, q_bs, q_bn, q_ms, q_mn, q_g0, q_gs, q_s0, q_ss, List.head?_cons, List.tail_cons, List.map_cons, List.map_nil, List.length_cons, List.length_nil, List.cons_append, List.nil_append, List.replicate_succ, List.replicate_zero, Nat.reduceSub, Nat.reduceAdd, Bool.false_xor, Bool.true_xor, Bool.not_true, Bool.not_false, beq_self_eq_true, isBool, isInt, isStr, isTuple, q_callI, if_true, ite_true, List.nodup_nil, List.nodup_cons, List.not_mem_nil, not_false_eq_true, and_true, true_and, and_self, q_fg0, q_fg1, q_fg2, q_fg3, q_fg4, q_fg5, q_fg6, q_lg0, q_lg1, q_lg2, q_lg3, q_lg4, q_lg5, q_sub, q_sub1, q_sub2, q_sub3, q_sub4, q_sub5, q_rng2, q_rng2a, q_aS, q_aS1, q_aS2, q_aS3, q_aS4, q_aS5, q_aS5', q_aS7, E, tk, List.reverse_nil, Int.natCast_zero, List.tail_nil]
  | cons x r =>
    have hz : ((((E r).length + 1 : Nat) : Int) == 0) = false := by
      rw [beq_eq_false_iff_ne]; omega
    simp only [q_var, q_var1, q_var2, q_mv, q_mv1, q_mv2, q_c, q_pr, q_bin, q_bin1, q_bin2, q_dv, q_do, q_tst, q_tst1, q_isN, q_isN0, q_isN1, q_isN2, q_isN3, q_isN4, q_isN5, q_and, q_and1, q_and2, q_or, q_or1, q_or2, q_not, q_not1, q_yes, q_andV, q_andV1, q_andV2, q_orV, q_orV1, q_orV2, q_notV, q_notV1, q_ifE, q_ifE1, q_ifE2, q_nil, q_cons, q_cons1, q_cons2, q_tup, q_tup1, q_lst, q_lst1, q_cb, q_cb1, q_lenV, q_lenV1, q_seq, q_seq1, q_sl, q_st, q_so, q_sb, q_sf, q_mu, q_mu1, q_mu2, q_muS, q_muS1, q_muS2, q_app, q_app1, q_app2, q_pop, q_pop1, q_rev, q_rev1, q_isi, q_isi1, q_inV, q_inV1, q_ixV, q_ixV1, q_ixV2, q_ixV3, q_ixL, q_ixT, q_kV, q_fI, q_addI, q_eqI, q_eqS, q_eqB, q_int, q_tupL, q_tupT, q_listL, q_listT, q_len1, q_len2, q_neg, q_neg1, q_call, q_call2, q_call3, q_call4, q_cnil, q_ccons, q_ccons1, q_ccons2, q_cb', q_cb'1, q_ar0, q_ar1, q_ar2, q_ar3, q_ar4, q_ar5, q_put0, q_put1, q_put2, q_put3, q_put4, q_put5, q_bix0, q_bix1, q_bix2, q_sq, q_sq1, q_sq2, q_sq3, q_sq4, q_snil, q_ret, q_ret1, q_expr, q_expr1, q_ifS, q_ifS1, q_ifS2, q_set, q_set1, q_asg, q_asg1, q_gname, q_gnil, q_gcons, q_gcons1, q_par, q_par1, q_aug, q_aug1, q_aug2, q_rng, q_iseq, q_iseq1, q_sd1, q_sd2, q_kP2, q_fro, q_fro1, q_for, q_for1, q_k0, q_k1, q_w0, q_w1, q_lc, q_lc2, q_n1, q_n0, q_run, bO_b, bO_v, bO_n, finB0, finB1, q_at0, q_at1, q_at2, q_at3, q_bs, q_bn, q_ms, q_mn, q_g0, q_gs, q_s0, q_ss, List.head?_cons, List.tail_cons, List.map_cons, List.map_nil, List.length_cons, List.length_nil, List.cons_append, List.nil_append, List.replicate_succ, List.replicate_zero, Nat.reduceSub, Nat.reduceAdd, Bool.false_xor, Bool.true_xor, Bool.not_true, Bool.not_false, beq_self_eq_true, isBool, isInt, isStr, isTuple, q_callI, if_true, ite_true, List.nodup_nil, List.nodup_cons, List.not_mem_nil, not_false_eq_true, and_true, true_and, and_self, q_fg0, q_fg1, q_fg2, q_fg3, q_fg4, q_fg5, q_fg6, q_lg0, q_lg1, q_lg2, q_lg3, q_lg4, q_lg5, q_sub, q_sub1, q_sub2, q_sub3, q_sub4, q_sub5, q_rng2, q_rng2a, q_aS, q_aS1, q_aS2, q_aS3, q_aS4, q_aS5, q_aS5', q_aS7, E_cons, List.length_append, hz, q_mod h, tk]
inductive Jp where
  | goto (l : Nat) | test (e : D) (l m : Nat) | fin (e : D)
def Jp.enc : Jp → D
  | .goto l => .tuple [.str "goto", .int l]
  | .test e l m => .tuple [.str "test", e, .int l, .int m]
  | .fin e => .tuple [.str "end", e]
def Jp.ways : Jp → List Nat
  | .goto l => [l]
  | .test _ l m => [l, m]
  | .fin _ => []
def encN (ns : List Nat) : List D := ns.map fun (n : Nat) => PyData.int (n : Int)
theorem sg1 : ((Str.ofString "goto") == (Str.ofString "test")) = false := by decide +kernel
theorem sg2 : ((Str.ofString "test") == (Str.ofString "goto")) = false := by decide +kernel
theorem sg3 : ((Str.ofString "end") == (Str.ofString "goto")) = false := by decide +kernel
theorem sg4 : ((Str.ofString "end") == (Str.ofString "test")) = false := by decide +kernel
theorem goes_eq (j : Jp) : f_goes_to [.val j.enc] = some (.val (.tuple (encN j.ways)), [none]) := by
  unfold f_goes_to b_goes_to
  cases j with
  | goto l => simp only [q_var, q_var1, q_var2, q_mv, q_mv1, q_mv2, q_c, q_pr, q_bin, q_bin1, q_bin2, q_dv, q_do, q_tst, q_tst1, q_isN, q_isN0, q_isN1, q_isN2, q_isN3, q_isN4, q_isN5, q_and, q_and1, q_and2, q_or, q_or1, q_or2, q_not, q_not1, q_yes, q_andV, q_andV1, q_andV2, q_orV, q_orV1, q_orV2, q_notV, q_notV1, q_ifE, q_ifE1, q_ifE2, q_nil, q_cons, q_cons1, q_cons2, q_tup, q_tup1, q_lst, q_lst1, q_cb, q_cb1, q_lenV, q_lenV1, q_seq, q_seq1, q_sl, q_st, q_so, q_sb, q_sf, q_mu, q_mu1, q_mu2, q_muS, q_muS1, q_muS2, q_app, q_app1, q_app2, q_pop, q_pop1, q_rev, q_rev1, q_isi, q_isi1, q_inV, q_inV1, q_ixV, q_ixV1, q_ixV2, q_ixV3, q_ixL, q_ixT, q_kV, q_fI, q_addI, q_eqI, q_eqS, q_eqB, q_int, q_tupL, q_tupT, q_listL, q_listT, q_len1, q_len2, q_neg, q_neg1, q_call, q_call2, q_call3, q_call4, q_cnil, q_ccons, q_ccons1, q_ccons2, q_cb', q_cb'1, q_ar0, q_ar1, q_ar2, q_ar3, q_ar4, q_ar5, q_put0, q_put1, q_put2, q_put3, q_put4, q_put5, q_bix0, q_bix1, q_bix2, q_sq, q_sq1, q_sq2, q_sq3, q_sq4, q_snil, q_ret, q_ret1, q_expr, q_expr1, q_ifS, q_ifS1, q_ifS2, q_set, q_set1, q_asg, q_asg1, q_gname, q_gnil, q_gcons, q_gcons1, q_par, q_par1, q_aug, q_aug1, q_aug2, q_rng, q_iseq, q_iseq1, q_sd1, q_sd2, q_kP2, q_fro, q_fro1, q_for, q_for1, q_k0, q_k1, q_w0, q_w1, q_lc, q_lc2, q_n1, q_n0, q_run, bO_b, bO_v, bO_n, finB0, finB1, q_at0, q_at1, q_at2, q_at3, q_bs, q_bn, q_ms, q_mn, q_g0, q_gs, q_s0, q_ss, List.head?_cons, List.tail_cons, List.map_cons, List.map_nil, List.length_cons, List.length_nil, List.cons_append, List.nil_append, List.replicate_succ, List.replicate_zero, Nat.reduceSub, Nat.reduceAdd, Bool.false_xor, Bool.true_xor, Bool.not_true, Bool.not_false, beq_self_eq_true, isBool, isInt, isStr, isTuple, q_callI, if_true, ite_true, List.nodup_nil, List.nodup_cons, List.not_mem_nil, not_false_eq_true, and_true, true_and, and_self, q_fg0, q_fg1, q_fg2, q_fg3, q_fg4, q_fg5, q_fg6, q_lg0, q_lg1, q_lg2, q_lg3, q_lg4, q_lg5, q_sub, q_sub1, q_sub2, q_sub3, q_sub4, q_sub5, q_rng2, q_rng2a, q_aS, q_aS1, q_aS2, q_aS3, q_aS4, q_aS5, q_aS5', q_aS7, Jp.enc, Jp.ways, encN]
  | test e l m => simp only [q_var, q_var1, q_var2, q_mv, q_mv1, q_mv2, q_c, q_pr, q_bin, q_bin1, q_bin2, q_dv, q_do, q_tst, q_tst1, q_isN, q_isN0, q_isN1, q_isN2, q_isN3, q_isN4, q_isN5, q_and, q_and1, q_and2, q_or, q_or1, q_or2, q_not, q_not1, q_yes, q_andV, q_andV1, q_andV2, q_orV, q_orV1, q_orV2, q_notV, q_notV1, q_ifE, q_ifE1, q_ifE2, q_nil, q_cons, q_cons1, q_cons2, q_tup, q_tup1, q_lst, q_lst1, q_cb, q_cb1, q_lenV, q_lenV1, q_seq, q_seq1, q_sl, q_st, q_so, q_sb, q_sf, q_mu, q_mu1, q_mu2, q_muS, q_muS1, q_muS2, q_app, q_app1, q_app2, q_pop, q_pop1, q_rev, q_rev1, q_isi, q_isi1, q_inV, q_inV1, q_ixV, q_ixV1, q_ixV2, q_ixV3, q_ixL, q_ixT, q_kV, q_fI, q_addI, q_eqI, q_eqS, q_eqB, q_int, q_tupL, q_tupT, q_listL, q_listT, q_len1, q_len2, q_neg, q_neg1, q_call, q_call2, q_call3, q_call4, q_cnil, q_ccons, q_ccons1, q_ccons2, q_cb', q_cb'1, q_ar0, q_ar1, q_ar2, q_ar3, q_ar4, q_ar5, q_put0, q_put1, q_put2, q_put3, q_put4, q_put5, q_bix0, q_bix1, q_bix2, q_sq, q_sq1, q_sq2, q_sq3, q_sq4, q_snil, q_ret, q_ret1, q_expr, q_expr1, q_ifS, q_ifS1, q_ifS2, q_set, q_set1, q_asg, q_asg1, q_gname, q_gnil, q_gcons, q_gcons1, q_par, q_par1, q_aug, q_aug1, q_aug2, q_rng, q_iseq, q_iseq1, q_sd1, q_sd2, q_kP2, q_fro, q_fro1, q_for, q_for1, q_k0, q_k1, q_w0, q_w1, q_lc, q_lc2, q_n1, q_n0, q_run, bO_b, bO_v, bO_n, finB0, finB1, q_at0, q_at1, q_at2, q_at3, q_bs, q_bn, q_ms, q_mn, q_g0, q_gs, q_s0, q_ss, List.head?_cons, List.tail_cons, List.map_cons, List.map_nil, List.length_cons, List.length_nil, List.cons_append, List.nil_append, List.replicate_succ, List.replicate_zero, Nat.reduceSub, Nat.reduceAdd, Bool.false_xor, Bool.true_xor, Bool.not_true, Bool.not_false, beq_self_eq_true, isBool, isInt, isStr, isTuple, q_callI, if_true, ite_true, List.nodup_nil, List.nodup_cons, List.not_mem_nil, not_false_eq_true, and_true, true_and, and_self, q_fg0, q_fg1, q_fg2, q_fg3, q_fg4, q_fg5, q_fg6, q_lg0, q_lg1, q_lg2, q_lg3, q_lg4, q_lg5, q_sub, q_sub1, q_sub2, q_sub3, q_sub4, q_sub5, q_rng2, q_rng2a, q_aS, q_aS1, q_aS2, q_aS3, q_aS4, q_aS5, q_aS5', q_aS7, Jp.enc, Jp.ways, encN, sg2]
  | fin e => simp only [q_var, q_var1, q_var2, q_mv, q_mv1, q_mv2, q_c, q_pr, q_bin, q_bin1, q_bin2, q_dv, q_do, q_tst, q_tst1, q_isN, q_isN0, q_isN1, q_isN2, q_isN3, q_isN4, q_isN5, q_and, q_and1, q_and2, q_or, q_or1, q_or2, q_not, q_not1, q_yes, q_andV, q_andV1, q_andV2, q_orV, q_orV1, q_orV2, q_notV, q_notV1, q_ifE, q_ifE1, q_ifE2, q_nil, q_cons, q_cons1, q_cons2, q_tup, q_tup1, q_lst, q_lst1, q_cb, q_cb1, q_lenV, q_lenV1, q_seq, q_seq1, q_sl, q_st, q_so, q_sb, q_sf, q_mu, q_mu1, q_mu2, q_muS, q_muS1, q_muS2, q_app, q_app1, q_app2, q_pop, q_pop1, q_rev, q_rev1, q_isi, q_isi1, q_inV, q_inV1, q_ixV, q_ixV1, q_ixV2, q_ixV3, q_ixL, q_ixT, q_kV, q_fI, q_addI, q_eqI, q_eqS, q_eqB, q_int, q_tupL, q_tupT, q_listL, q_listT, q_len1, q_len2, q_neg, q_neg1, q_call, q_call2, q_call3, q_call4, q_cnil, q_ccons, q_ccons1, q_ccons2, q_cb', q_cb'1, q_ar0, q_ar1, q_ar2, q_ar3, q_ar4, q_ar5, q_put0, q_put1, q_put2, q_put3, q_put4, q_put5, q_bix0, q_bix1, q_bix2, q_sq, q_sq1, q_sq2, q_sq3, q_sq4, q_snil, q_ret, q_ret1, q_expr, q_expr1, q_ifS, q_ifS1, q_ifS2, q_set, q_set1, q_asg, q_asg1, q_gname, q_gnil, q_gcons, q_gcons1, q_par, q_par1, q_aug, q_aug1, q_aug2, q_rng, q_iseq, q_iseq1, q_sd1, q_sd2, q_kP2, q_fro, q_fro1, q_for, q_for1, q_k0, q_k1, q_w0, q_w1, q_lc, q_lc2, q_n1, q_n0, q_run, bO_b, bO_v, bO_n, finB0, finB1, q_at0, q_at1, q_at2, q_at3, q_bs, q_bn, q_ms, q_mn, q_g0, q_gs, q_s0, q_ss, List.head?_cons, List.tail_cons, List.map_cons, List.map_nil, List.length_cons, List.length_nil, List.cons_append, List.nil_append, List.replicate_succ, List.replicate_zero, Nat.reduceSub, Nat.reduceAdd, Bool.false_xor, Bool.true_xor, Bool.not_true, Bool.not_false, beq_self_eq_true, isBool, isInt, isStr, isTuple, q_callI, if_true, ite_true, List.nodup_nil, List.nodup_cons, List.not_mem_nil, not_false_eq_true, and_true, true_and, and_self, q_fg0, q_fg1, q_fg2, q_fg3, q_fg4, q_fg5, q_fg6, q_lg0, q_lg1, q_lg2, q_lg3, q_lg4, q_lg5, q_sub, q_sub1, q_sub2, q_sub3, q_sub4, q_sub5, q_rng2, q_rng2a, q_aS, q_aS1, q_aS2, q_aS3, q_aS4, q_aS5, q_aS5', q_aS7, Jp.enc, Jp.ways, encN, sg3, sg4]

structure Pg where
  many : Int
  bs : List (D × Jp)
def encB (x : D × Jp) : D := .tuple [x.1, x.2.enc]
def Pg.enc (p : Pg) : D := .tuple [.int p.many, .tuple (p.bs.map encB)]
def Pg.n (p : Pg) : Nat := p.bs.length
def Pg.W (p : Pg) (b : Nat) : List Nat := ((p.bs[b]?).map fun x => x.2.ways).getD []
structure Pg.Wf (p : Pg) : Prop where
  pos : 0 < p.n
  small : p.n ≤ 6
  go : ∀ b w, w ∈ p.W b → w < p.n
theorem W_of {p : Pg} {k : Nat} {x : D × Jp} (h : p.bs[k]? = some x) : p.W k = x.2.ways := by
  unfold Pg.W
  rw [h]
  rfl
theorem blk_at {p : Pg} {k : Nat} (h : k < p.n) : ∃ x, p.bs[k]? = some x ∧ atI (p.bs.map encB) (k : Int) = some (encB x) ∧ p.W k = x.2.ways := by
  obtain ⟨x, hx⟩ : ∃ x, p.bs[k]? = some x := ⟨_, List.getElem?_eq_getElem h⟩
  exact ⟨x, hx, at_nat (by rw [List.getElem?_map, hx]; rfl), W_of hx⟩
theorem ways_len (j : Jp) : j.ways.length ≤ 2 := by cases j <;> simp [Jp.ways]
theorem W_len (p : Pg) (b : Nat) : (p.W b).length ≤ 2 := by
  unfold Pg.W
  cases h : p.bs[b]? with
  | none => simp
  | some x => simpa using ways_len x.2
theorem behind_eq {p : Pg} {k : Nat} (h : k < p.n) : f_ways_behind [.val p.enc, .val (.int k)] = some (.val (.tuple (encN (p.W k))), [none, none]) := by
  obtain ⟨x, hx, ha, hw⟩ := blk_at h
  unfold f_ways_behind b_ways_behind Pg.enc
  simp only [q_var, q_var1, q_var2, q_mv, q_mv1, q_mv2, q_c, q_pr, q_bin, q_bin1, q_bin2, q_dv, q_do, q_tst, q_tst1, q_isN, q_isN0, q_isN1, q_isN2, q_isN3, q_isN4, q_isN5, q_and, q_and1, q_and2, q_or, q_or1, q_or2, q_not, q_not1, q_yes, q_andV, q_andV1, q_andV2, q_orV, q_orV1, q_orV2, q_notV, q_notV1, q_ifE, q_ifE1, q_ifE2, q_nil, q_cons, q_cons1, q_cons2, q_tup, q_tup1, q_lst, q_lst1, q_cb, q_cb1, q_lenV, q_lenV1, q_seq, q_seq1, q_sl, q_st, q_so, q_sb, q_sf, q_mu, q_mu1, q_mu2, q_muS, q_muS1, q_muS2, q_app, q_app1, q_app2, q_pop, q_pop1, q_rev, q_rev1, q_isi, q_isi1, q_inV, q_inV1, q_ixV, q_ixV1, q_ixV2, q_ixV3, q_ixL, q_ixT, q_kV, q_fI, q_addI, q_eqI, q_eqS, q_eqB, q_int, q_tupL, q_tupT, q_listL, q_listT, q_len1, q_len2, q_neg, q_neg1, q_call, q_call2, q_call3, q_call4, q_cnil, q_ccons, q_ccons1, q_ccons2, q_cb', q_cb'1, q_ar0, q_ar1, q_ar2, q_ar3, q_ar4, q_ar5, q_put0, q_put1, q_put2, q_put3, q_put4, q_put5, q_bix0, q_bix1, q_bix2, q_sq, q_sq1, q_sq2, q_sq3, q_sq4, q_snil, q_ret, q_ret1, q_expr, q_expr1, q_ifS, q_ifS1, q_ifS2, q_set, q_set1, q_asg, q_asg1, q_gname, q_gnil, q_gcons, q_gcons1, q_par, q_par1, q_aug, q_aug1, q_aug2, q_rng, q_iseq, q_iseq1, q_sd1, q_sd2, q_kP2, q_fro, q_fro1, q_for, q_for1, q_k0, q_k1, q_w0, q_w1, q_lc, q_lc2, q_n1, q_n0, q_run, bO_b, bO_v, bO_n, finB0, finB1, q_at0, q_at1, q_at2, q_at3, q_bs, q_bn, q_ms, q_mn, q_g0, q_gs, q_s0, q_ss, List.head?_cons, List.tail_cons, List.map_cons, List.map_nil, List.length_cons, List.length_nil, List.cons_append, List.nil_append, List.replicate_succ, List.replicate_zero, Nat.reduceSub, Nat.reduceAdd, Bool.false_xor, Bool.true_xor, Bool.not_true, Bool.not_false, beq_self_eq_true, isBool, isInt, isStr, isTuple, q_callI, if_true, ite_true, List.nodup_nil, List.nodup_cons, List.not_mem_nil, not_false_eq_true, and_true, true_and, and_self, q_fg0, q_fg1, q_fg2, q_fg3, q_fg4, q_fg5, q_fg6, q_lg0, q_lg1, q_lg2, q_lg3, q_lg4, q_lg5, q_sub, q_sub1, q_sub2, q_sub3, q_sub4, q_sub5, q_rng2, q_rng2a, q_aS, q_aS1, q_aS2, q_aS3, q_aS4, q_aS5, q_aS5', q_aS7, ha, encB, goes_eq, hw]
theorem lways_eq {p : Pg} {k : Nat} (h : k < p.n) : f_Lways [.val p.enc, .val (.int k)] = some (.own (encN (p.W k)), [none, none]) := by
  obtain ⟨x, hx, ha, hw⟩ := blk_at h
  unfold f_Lways b_Lways Pg.enc
  rw [hw]
  cases e : x.2 with
  | goto l => simp only [q_var, q_var1, q_var2, q_mv, q_mv1, q_mv2, q_c, q_pr, q_bin, q_bin1, q_bin2, q_dv, q_do, q_tst, q_tst1, q_isN, q_isN0, q_isN1, q_isN2, q_isN3, q_isN4, q_isN5, q_and, q_and1, q_and2, q_or, q_or1, q_or2, q_not, q_not1, q_yes, q_andV, q_andV1, q_andV2, q_orV, q_orV1, q_orV2, q_notV, q_notV1, q_ifE, q_ifE1, q_ifE2, q_nil, q_cons, q_cons1, q_cons2, q_tup, q_tup1, q_lst, q_lst1, q_cb, q_cb1, q_lenV, q_lenV1, q_seq, q_seq1, q_sl, q_st, q_so, q_sb, q_sf, q_mu, q_mu1, q_mu2, q_muS, q_muS1, q_muS2, q_app, q_app1, q_app2, q_pop, q_pop1, q_rev, q_rev1, q_isi, q_isi1, q_inV, q_inV1, q_ixV, q_ixV1, q_ixV2, q_ixV3, q_ixL, q_ixT, q_kV, q_fI, q_addI, q_eqI, q_eqS, q_eqB, q_int, q_tupL, q_tupT, q_listL, q_listT, q_len1, q_len2, q_neg, q_neg1, q_call, q_call2, q_call3, q_call4, q_cnil, q_ccons, q_ccons1, q_ccons2, q_cb', q_cb'1, q_ar0, q_ar1, q_ar2, q_ar3, q_ar4, q_ar5, q_put0, q_put1, q_put2, q_put3, q_put4, q_put5, q_bix0, q_bix1, q_bix2, q_sq, q_sq1, q_sq2, q_sq3, q_sq4, q_snil, q_ret, q_ret1, q_expr, q_expr1, q_ifS, q_ifS1, q_ifS2, q_set, q_set1, q_asg, q_asg1, q_gname, q_gnil, q_gcons, q_gcons1, q_par, q_par1, q_aug, q_aug1, q_aug2, q_rng, q_iseq, q_iseq1, q_sd1, q_sd2, q_kP2, q_fro, q_fro1, q_for, q_for1, q_k0, q_k1, q_w0, q_w1, q_lc, q_lc2, q_n1, q_n0, q_run, bO_b, bO_v, bO_n, finB0, finB1, q_at0, q_at1, q_at2, q_at3, q_bs, q_bn, q_ms, q_mn, q_g0, q_gs, q_s0, q_ss, List.head?_cons, List.tail_cons, List.map_cons, List.map_nil, List.length_cons, List.length_nil, List.cons_append, List.nil_append, List.replicate_succ, List.replicate_zero, Nat.reduceSub, Nat.reduceAdd, Bool.false_xor, Bool.true_xor, Bool.not_true, Bool.not_false, beq_self_eq_true, isBool, isInt, isStr, isTuple, q_callI, if_true, ite_true, List.nodup_nil, List.nodup_cons, List.not_mem_nil, not_false_eq_true, and_true, true_and, and_self, q_fg0, q_fg1, q_fg2, q_fg3, q_fg4, q_fg5, q_fg6, q_lg0, q_lg1, q_lg2, q_lg3, q_lg4, q_lg5, q_sub, q_sub1, q_sub2, q_sub3, q_sub4, q_sub5, q_rng2, q_rng2a, q_aS, q_aS1, q_aS2, q_aS3, q_aS4, q_aS5, q_aS5', q_aS7, ha, encB, e, Jp.enc, Jp.ways, encN]
  | test t l m => simp only [q_var, q_var1, q_var2, q_mv, q_mv1, q_mv2, q_c, q_pr, q_bin, q_bin1, q_bin2, q_dv, q_do, q_tst, q_tst1, q_isN, q_isN0, q_isN1, q_isN2, q_isN3, q_isN4, q_isN5, q_and, q_and1, q_and2, q_or, q_or1, q_or2, q_not, q_not1, q_yes, q_andV, q_andV1, q_andV2, q_orV, q_orV1, q_orV2, q_notV, q_notV1, q_ifE, q_ifE1, q_ifE2, q_nil, q_cons, q_cons1, q_cons2, q_tup, q_tup1, q_lst, q_lst1, q_cb, q_cb1, q_lenV, q_lenV1, q_seq, q_seq1, q_sl, q_st, q_so, q_sb, q_sf, q_mu, q_mu1, q_mu2, q_muS, q_muS1, q_muS2, q_app, q_app1, q_app2, q_pop, q_pop1, q_rev, q_rev1, q_isi, q_isi1, q_inV, q_inV1, q_ixV, q_ixV1, q_ixV2, q_ixV3, q_ixL, q_ixT, q_kV, q_fI, q_addI, q_eqI, q_eqS, q_eqB, q_int, q_tupL, q_tupT, q_listL, q_listT, q_len1, q_len2, q_neg, q_neg1, q_call, q_call2, q_call3, q_call4, q_cnil, q_ccons, q_ccons1, q_ccons2, q_cb', q_cb'1, q_ar0, q_ar1, q_ar2, q_ar3, q_ar4, q_ar5, q_put0, q_put1, q_put2, q_put3, q_put4, q_put5, q_bix0, q_bix1, q_bix2, q_sq, q_sq1, q_sq2, q_sq3, q_sq4, q_snil, q_ret, q_ret1, q_expr, q_expr1, q_ifS, q_ifS1, q_ifS2, q_set, q_set1, q_asg, q_asg1, q_gname, q_gnil, q_gcons, q_gcons1, q_par, q_par1, q_aug, q_aug1, q_aug2, q_rng, q_iseq, q_iseq1, q_sd1, q_sd2, q_kP2, q_fro, q_fro1, q_for, q_for1, q_k0, q_k1, q_w0, q_w1, q_lc, q_lc2, q_n1, q_n0, q_run, bO_b, bO_v, bO_n, finB0, finB1, q_at0, q_at1, q_at2, q_at3, q_bs, q_bn, q_ms, q_mn, q_g0, q_gs, q_s0, q_ss, List.head?_cons, List.tail_cons, List.map_cons, List.map_nil, List.length_cons, List.length_nil, List.cons_append, List.nil_append, List.replicate_succ, List.replicate_zero, Nat.reduceSub, Nat.reduceAdd, Bool.false_xor, Bool.true_xor, Bool.not_true, Bool.not_false, beq_self_eq_true, isBool, isInt, isStr, isTuple, q_callI, if_true, ite_true, List.nodup_nil, List.nodup_cons, List.not_mem_nil, not_false_eq_true, and_true, true_and, and_self, q_fg0, q_fg1, q_fg2, q_fg3, q_fg4, q_fg5, q_fg6, q_lg0, q_lg1, q_lg2, q_lg3, q_lg4, q_lg5, q_sub, q_sub1, q_sub2, q_sub3, q_sub4, q_sub5, q_rng2, q_rng2a, q_aS, q_aS1, q_aS2, q_aS3, q_aS4, q_aS5, q_aS5', q_aS7, ha, encB, e, Jp.enc, Jp.ways, encN, sg2]
  | fin t => simp only [q_var, q_var1, q_var2, q_mv, q_mv1, q_mv2, q_c, q_pr, q_bin, q_bin1, q_bin2, q_dv, q_do, q_tst, q_tst1, q_isN, q_isN0, q_isN1, q_isN2, q_isN3, q_isN4, q_isN5, q_and, q_and1, q_and2, q_or, q_or1, q_or2, q_not, q_not1, q_yes, q_andV, q_andV1, q_andV2, q_orV, q_orV1, q_orV2, q_notV, q_notV1, q_ifE, q_ifE1, q_ifE2, q_nil, q_cons, q_cons1, q_cons2, q_tup, q_tup1, q_lst, q_lst1, q_cb, q_cb1, q_lenV, q_lenV1, q_seq, q_seq1, q_sl, q_st, q_so, q_sb, q_sf, q_mu, q_mu1, q_mu2, q_muS, q_muS1, q_muS2, q_app, q_app1, q_app2, q_pop, q_pop1, q_rev, q_rev1, q_isi, q_isi1, q_inV, q_inV1, q_ixV, q_ixV1, q_ixV2, q_ixV3, q_ixL, q_ixT, q_kV, q_fI, q_addI, q_eqI, q_eqS, q_eqB, q_int, q_tupL, q_tupT, q_listL, q_listT, q_len1, q_len2, q_neg, q_neg1, q_call, q_call2, q_call3, q_call4, q_cnil, q_ccons, q_ccons1, q_ccons2, q_cb', q_cb'1, q_ar0, q_ar1, q_ar2, q_ar3, q_ar4, q_ar5, q_put0, q_put1, q_put2, q_put3, q_put4, q_put5, q_bix0, q_bix1, q_bix2, q_sq, q_sq1, q_sq2, q_sq3, q_sq4, q_snil, q_ret, q_ret1, q_expr, q_expr1, q_ifS, q_ifS1, q_ifS2, q_set, q_set1, q_asg, q_asg1, q_gname, q_gnil, q_gcons, q_gcons1, q_par, q_par1, q_aug, q_aug1, q_aug2, q_rng, q_iseq, q_iseq1, q_sd1, q_sd2, q_kP2, q_fro, q_fro1, q_for, q_for1, q_k0, q_k1, q_w0, q_w1, q_lc, q_lc2, q_n1, q_n0, q_run, bO_b, bO_v, bO_n, finB0, finB1, q_at0, q_at1, q_at2, q_at3, q_bs, q_bn, q_ms, q_mn, q_g0, q_gs, q_s0, q_ss, List.head?_cons, List.tail_cons, List.map_cons, List.map_nil, List.length_cons, List.length_nil, List.cons_append, List.nil_append, List.replicate_succ, List.replicate_zero, Nat.reduceSub, Nat.reduceAdd, Bool.false_xor, Bool.true_xor, Bool.not_true, Bool.not_false, beq_self_eq_true, isBool, isInt, isStr, isTuple, q_callI, if_true, ite_true, List.nodup_nil, List.nodup_cons, List.not_mem_nil, not_false_eq_true, and_true, true_and, and_self, q_fg0, q_fg1, q_fg2, q_fg3, q_fg4, q_fg5, q_fg6, q_lg0, q_lg1, q_lg2, q_lg3, q_lg4, q_lg5, q_sub, q_sub1, q_sub2, q_sub3, q_sub4, q_sub5, q_rng2, q_rng2a, q_aS, q_aS1, q_aS2, q_aS3, q_aS4, q_aS5, q_aS5', q_aS7, ha, encB, e, Jp.enc, Jp.ways, encN, sg3, sg4]
end K50

set_option Elab.async false
set_option linter.all false
set_option maxRecDepth 100000
set_option maxHeartbeats 4000000
namespace K50
open PySem L2 DL
theorem len_enc {p : Pg} : (p.bs.map encB).length = p.n := by simp [Pg.n]
theorem n62 {n : Nat} (h : n ≤ 1000) : -(2 ^ 62) ≤ (n : Int) ∧ (n : Int) < 2 ^ 62 := by omega
def encO : Option Nat → D
  | none => .none
  | some n => .int (n : Int)
theorem at_map {α : Type} {f : α → D} {xs : List α} {k : Nat} {x : α} (h : xs[k]? = some x) : atI (xs.map f) (k : Int) = some (f x) := at_nat (by rw [List.getElem?_map, h]; rfl)
theorem at_told {told : List (Option Nat)} {k : Nat} (h : k < told.length) : atI (told.map encO) (k : Int) = some (encO (told.getD k none)) := by
  refine at_map ?_
  rw [List.getD_eq_getElem?_getD, List.getElem?_eq_getElem h]
  rfl
theorem encO_s (n : Nat) : encO (some n) = .int (n : Int) := rfl
theorem W_cases (p : Pg) (b : Nat) : p.W b = [] ∨ (∃ l, p.W b = [l]) ∨ ∃ l m, p.W b = [l, m] := by
  unfold Pg.W
  cases h : p.bs[b]? with
  | none => exact .inl rfl
  | some x =>
    cases e : x.2 with
    | goto l => exact .inr (.inl ⟨l, by simp [e, Jp.ways]⟩)
    | test t l m => exact .inr (.inr ⟨l, m, by simp [e, Jp.ways]⟩)
    | fin t => exact .inl (by simp [e, Jp.ways])
/-! ### fewest_steps -/
def fc (W : Nat → List Nat) (s : Nat) (told : List (Option Nat)) (b : Nat) : Bool := (told.getD b none).isNone && ((W b).isEmpty || (W b).any fun w => told.getD w none == some s)
def fst1 (W : Nat → List Nat) (s : Nat) (told : List (Option Nat)) (b : Nat) : List (Option Nat) := if fc W s told b then told.set b (some (s + 1)) else told
def frnd (W : Nat → List Nat) (n : Nat) (told : List (Option Nat)) (s : Nat) : List (Option Nat) := (List.range n).foldl (fst1 W s) told
def fewest (W : Nat → List Nat) (n : Nat) : List (Option Nat) := (List.range n).foldl (frnd W n) (List.replicate n none)
theorem fst1_len {W : Nat → List Nat} {s : Nat} {told : List (Option Nat)} {b : Nat} : (fst1 W s told b).length = told.length := by
  unfold fst1
  split <;> simp
def envF (p : Pg) (s : Int) (told : List (Option Nat)) : En := [some (.val p.enc), some (.own (told.map encO)), some (.val (.int s)), none, none, none]
theorem eqv_o (x : Option Nat) (s : Nat) : PyData.eqv (encO x) (.int (s : Int)) = (x == some s) := by
  cases x with
  | none => rfl
  | some k =>
    show ((k : Int) == (s : Int)) = (some k == some s)
    by_cases h : k = s
    · subst h; simp
    · have h1 : ((k : Int) == (s : Int)) = false := by
        rw [beq_eq_false_iff_ne]; omega
      have h2 : (some k == some s) = false := by
        rw [beq_eq_false_iff_ne]
        intro e
        exact h (Option.some.inj e)
      rw [h1, h2]
theorem sh_o (x : Option Nat) : Sh 0 (encO x) := by
  cases x
  · exact sh_non
  · exact sh_int _
theorem isN_o (x : Option Nat) {ρ : En} : kIsN false (.val (encO x), ρ) = (.val (.bool x.isNone), ρ) := by cases x <;> rfl
theorem encN_len (ws : List Nat) : (encN ws).length = ws.length := by simp [encN]
theorem len0 (ws : List Nat) : (((encN ws).length : Int) == 0) = ws.isEmpty := by
  rw [encN_len]
  cases ws with
  | nil => rfl
  | cons a r =>
    rw [beq_eq_false_iff_ne.mpr (by rw [List.length_cons]; omega)]
    rfl
theorem any_o (told : List (Option Nat)) (ws : List Nat) (s : Nat) : inD (.int (s : Int)) (ws.map fun w => encO (told.getD w none)) = ws.any fun w => told.getD w none == some s := by
  unfold inD
  rw [List.any_map]
  congr 1
  funext w
  exact eqv_o _ _
theorem sh_os (told : List (Option Nat)) (ws : List Nat) : SeqAt.shaped (.list (ws.map fun w => encO (told.getD w none))) = true :=
  (sh_list (k := 0) fun d hd => by
    obtain ⟨w, _, rfl⟩ := List.mem_map.mp hd
    exact sh_o _).shaped
theorem told_lc {told : List (Option Nat)} {n : Nat} (hl : told.length = n) {ws : List Nat} (hw : ∀ w ∈ ws, w < n) {x y z u v : Option S} :
    lcGo (rgName 5) rtYes e_fewest_steps_1 [5] (encN ws) [] [x, some (.own (told.map encO)), y, z, u, none] = some (ws.map fun w => encO (told.getD w none), [x, some (.own (told.map encO)), y, z, u, none]) := by
  have := lc_map (g := rgName 5) (t := e_fewest_steps_1) (vs := [5]) (fun (n : Nat) => PyData.int (n : Int)) (fun w => encO (told.getD w none)) (ρ := [x, some (.own (told.map encO)), y, z, u, none]) ws [] fun w hm => by
    have h1 := at_told (told := told) (k := w) (by have := hw w hm; omega)
    refine ⟨[x, some (.own (told.map encO)), y, z, u, some (.val (.int (w : Int)))], _, _, rfl, by unfold e_fewest_steps_1; simp only [q_var, q_var1, q_var2, q_mv, q_mv1, q_mv2, q_c, q_pr, q_bin, q_bin1, q_bin2, q_dv, q_do, q_tst, q_tst1, q_isN, q_isN0, q_isN1, q_isN2, q_isN3, q_isN4, q_isN5, q_and, q_and1, q_and2, q_or, q_or1, q_or2, q_not, q_not1, q_yes, q_andV, q_andV1, q_andV2, q_orV, q_orV1, q_orV2, q_notV, q_notV1, q_ifE, q_ifE1, q_ifE2, q_nil, q_cons, q_cons1, q_cons2, q_tup, q_tup1, q_lst, q_lst1, q_cb, q_cb1, q_lenV, q_lenV1, q_seq, q_seq1, q_sl, q_st, q_so, q_sb, q_sf, q_mu, q_mu1, q_mu2, q_muS, q_muS1, q_muS2, q_app, q_app1, q_app2, q_pop, q_pop1, q_rev, q_rev1, q_isi, q_isi1, q_inV, q_inV1, q_ixV, q_ixV1, q_ixV2, q_ixV3, q_ixL, q_ixT, q_kV, q_fI, q_addI, q_eqI, q_eqS, q_eqB, q_int, q_tupL, q_tupT, q_listL, q_listT, q_len1, q_len2, q_neg, q_neg1, q_call, q_call2, q_call3, q_call4, q_cnil, q_ccons, q_ccons1, q_ccons2, q_cb', q_cb'1, q_ar0, q_ar1, q_ar2, q_ar3, q_ar4, q_ar5, q_put0, q_put1, q_put2, q_put3, q_put4, q_put5, q_bix0, q_bix1, q_bix2, q_sq, q_sq1, q_sq2, q_sq3, q_sq4, q_snil, q_ret, q_ret1, q_expr, q_expr1, q_ifS, q_ifS1, q_ifS2, q_set, q_set1, q_asg, q_asg1, q_gname, q_gnil, q_gcons, q_gcons1, q_par, q_par1, q_aug, q_aug1, q_aug2, q_rng, q_iseq, q_iseq1, q_sd1, q_sd2, q_kP2, q_fro, q_fro1, q_for, q_for1, q_k0, q_k1, q_w0, q_w1, q_lc, q_lc2, q_n1, q_n0, q_run, bO_b, bO_v, bO_n, finB0, finB1, q_at0, q_at1, q_at2, q_at3, q_bs, q_bn, q_ms, q_mn, q_g0, q_gs, q_s0, q_ss, List.head?_cons, List.tail_cons, List.map_cons, List.map_nil, List.length_cons, List.length_nil, List.cons_append, List.nil_append, List.replicate_succ, List.replicate_zero, Nat.reduceSub, Nat.reduceAdd, Bool.false_xor, Bool.true_xor, Bool.not_true, Bool.not_false, beq_self_eq_true, isBool, isInt, isStr, isTuple, q_callI, if_true, ite_true, List.nodup_nil, List.nodup_cons, List.not_mem_nil, not_false_eq_true, and_true, true_and, and_self, q_fg0, q_fg1, q_fg2, q_fg3, q_fg4, q_fg5, q_fg6, q_lg0, q_lg1, q_lg2, q_lg3, q_lg4, q_lg5, q_sub, q_sub1, q_sub2, q_sub3, q_sub4, q_sub5, q_rng2, q_rng2a, q_aS, q_aS1, q_aS2, q_aS3, q_aS4, q_aS5, q_aS5', q_aS7, h1]; rfl, rfl, rfl⟩
  rw [List.nil_append] at this
  exact this
theorem fw_step (p : Pg) (wf : p.Wf) (s : Nat) (told : List (Option Nat)) (b : Nat) (hl : told.length = p.n) (hb : b < p.n) :
    ∃ ρ1 ρ2, rgName 3 (.int (b : Int)) (envF p ((s + 1 : Nat) : Int) told) = some ρ1 ∧ w_fewest_steps_2 ρ1 = some (.nx ρ2) ∧ killE [3, 4] ρ2 = envF p ((s + 1 : Nat) : Int) (fst1 p.W s told b) := by
  refine ⟨_, [some (.val p.enc), some (.own ((fst1 p.W s told b).map encO)), some (.val (.int ((s + 1 : Nat) : Int))), some (.val (.int (b : Int))), some (.val (.tuple (encN (p.W b)))), none], rfl, ?_, rfl⟩
  unfold w_fewest_steps_2 envF
  have hs : (((s + 1 : Nat) : Int) - 1) = (s : Int) := by omega
  have hbt := at_told (told := told) (k := b) (by omega)
  have hix : ixN (told.map encO).length (b : Int) = some b := ix_nat (by rw [List.length_map]; omega)
  have hsz : (encN (p.W b)).length ≤ sizeLine := sz_le (by have := W_len p b; rw [encN_len]; omega)
  have hlc := fun x y z u => told_lc hl (wf.go b) (x := x) (y := y) (z := z) (u := u) (v := none)
  cases h0 : (told.getD b none).isNone with
  | false =>
    have e : fst1 p.W s told b = told := by
      unfold fst1 fc
      rw [h0]
      rfl
    rw [e]
    simp only [q_var, q_var1, q_var2, q_mv, q_mv1, q_mv2, q_c, q_pr, q_bin, q_bin1, q_bin2, q_dv, q_do, q_tst, q_tst1, q_isN, q_isN0, q_isN1, q_isN2, q_isN3, q_isN4, q_isN5, q_and, q_and1, q_and2, q_or, q_or1, q_or2, q_not, q_not1, q_yes, q_andV, q_andV1, q_andV2, q_orV, q_orV1, q_orV2, q_notV, q_notV1, q_ifE, q_ifE1, q_ifE2, q_nil, q_cons, q_cons1, q_cons2, q_tup, q_tup1, q_lst, q_lst1, q_cb, q_cb1, q_lenV, q_lenV1, q_seq, q_seq1, q_sl, q_st, q_so, q_sb, q_sf, q_mu, q_mu1, q_mu2, q_muS, q_muS1, q_muS2, q_app, q_app1, q_app2, q_pop, q_pop1, q_rev, q_rev1, q_isi, q_isi1, q_inV, q_inV1, q_ixV, q_ixV1, q_ixV2, q_ixV3, q_ixL, q_ixT, q_kV, q_fI, q_addI, q_eqI, q_eqS, q_eqB, q_int, q_tupL, q_tupT, q_listL, q_listT, q_len1, q_len2, q_neg, q_neg1, q_call, q_call2, q_call3, q_call4, q_cnil, q_ccons, q_ccons1, q_ccons2, q_cb', q_cb'1, q_ar0, q_ar1, q_ar2, q_ar3, q_ar4, q_ar5, q_put0, q_put1, q_put2, q_put3, q_put4, q_put5, q_bix0, q_bix1, q_bix2, q_sq, q_sq1, q_sq2, q_sq3, q_sq4, q_snil, q_ret, q_ret1, q_expr, q_expr1, q_ifS, q_ifS1, q_ifS2, q_set, q_set1, q_asg, q_asg1, q_gname, q_gnil, q_gcons, q_gcons1, q_par, q_par1, q_aug, q_aug1, q_aug2, q_rng, q_iseq, q_iseq1, q_sd1, q_sd2, q_kP2, q_fro, q_fro1, q_for, q_for1, q_k0, q_k1, q_w0, q_w1, q_lc, q_lc2, q_n1, q_n0, q_run, bO_b, bO_v, bO_n, finB0, finB1, q_at0, q_at1, q_at2, q_at3, q_bs, q_bn, q_ms, q_mn, q_g0, q_gs, q_s0, q_ss, List.head?_cons, List.tail_cons, List.map_cons, List.map_nil, List.length_cons, List.length_nil, List.cons_append, List.nil_append, List.replicate_succ, List.replicate_zero, Nat.reduceSub, Nat.reduceAdd, Bool.false_xor, Bool.true_xor, Bool.not_true, Bool.not_false, beq_self_eq_true, isBool, isInt, isStr, isTuple, q_callI, if_true, ite_true, List.nodup_nil, List.nodup_cons, List.not_mem_nil, not_false_eq_true, and_true, true_and, and_self, q_fg0, q_fg1, q_fg2, q_fg3, q_fg4, q_fg5, q_fg6, q_lg0, q_lg1, q_lg2, q_lg3, q_lg4, q_lg5, q_sub, q_sub1, q_sub2, q_sub3, q_sub4, q_sub5, q_rng2, q_rng2a, q_aS, q_aS1, q_aS2, q_aS3, q_aS4, q_aS5, q_aS5', q_aS7, behind_eq hb, hbt, isN_o, h0]
  | true =>
    cases h1 : (p.W b).isEmpty with
    | true =>
      have e : fst1 p.W s told b = told.set b (some (s + 1)) := by
        unfold fst1 fc
        rw [h0, h1]
        rfl
      rw [e]
      simp only [q_var, q_var1, q_var2, q_mv, q_mv1, q_mv2, q_c, q_pr, q_bin, q_bin1, q_bin2, q_dv, q_do, q_tst, q_tst1, q_isN, q_isN0, q_isN1, q_isN2, q_isN3, q_isN4, q_isN5, q_and, q_and1, q_and2, q_or, q_or1, q_or2, q_not, q_not1, q_yes, q_andV, q_andV1, q_andV2, q_orV, q_orV1, q_orV2, q_notV, q_notV1, q_ifE, q_ifE1, q_ifE2, q_nil, q_cons, q_cons1, q_cons2, q_tup, q_tup1, q_lst, q_lst1, q_cb, q_cb1, q_lenV, q_lenV1, q_seq, q_seq1, q_sl, q_st, q_so, q_sb, q_sf, q_mu, q_mu1, q_mu2, q_muS, q_muS1, q_muS2, q_app, q_app1, q_app2, q_pop, q_pop1, q_rev, q_rev1, q_isi, q_isi1, q_inV, q_inV1, q_ixV, q_ixV1, q_ixV2, q_ixV3, q_ixL, q_ixT, q_kV, q_fI, q_addI, q_eqI, q_eqS, q_eqB, q_int, q_tupL, q_tupT, q_listL, q_listT, q_len1, q_len2, q_neg, q_neg1, q_call, q_call2, q_call3, q_call4, q_cnil, q_ccons, q_ccons1, q_ccons2, q_cb', q_cb'1, q_ar0, q_ar1, q_ar2, q_ar3, q_ar4, q_ar5, q_put0, q_put1, q_put2, q_put3, q_put4, q_put5, q_bix0, q_bix1, q_bix2, q_sq, q_sq1, q_sq2, q_sq3, q_sq4, q_snil, q_ret, q_ret1, q_expr, q_expr1, q_ifS, q_ifS1, q_ifS2, q_set, q_set1, q_asg, q_asg1, q_gname, q_gnil, q_gcons, q_gcons1, q_par, q_par1, q_aug, q_aug1, q_aug2, q_rng, q_iseq, q_iseq1, q_sd1, q_sd2, q_kP2, q_fro, q_fro1, q_for, q_for1, q_k0, q_k1, q_w0, q_w1, q_lc, q_lc2, q_n1, q_n0, q_run, bO_b, bO_v, bO_n, finB0, finB1, q_at0, q_at1, q_at2, q_at3, q_bs, q_bn, q_ms, q_mn, q_g0, q_gs, q_s0, q_ss, List.head?_cons, List.tail_cons, List.map_cons, List.map_nil, List.length_cons, List.length_nil, List.cons_append, List.nil_append, List.replicate_succ, List.replicate_zero, Nat.reduceSub, Nat.reduceAdd, Bool.false_xor, Bool.true_xor, Bool.not_true, Bool.not_false, beq_self_eq_true, isBool, isInt, isStr, isTuple, q_callI, if_true, ite_true, List.nodup_nil, List.nodup_cons, List.not_mem_nil, not_false_eq_true, and_true, true_and, and_self, q_fg0, q_fg1, q_fg2, q_fg3, q_fg4, q_fg5, q_fg6, q_lg0, q_lg1, q_lg2, q_lg3, q_lg4, q_lg5, q_sub, q_sub1, q_sub2, q_sub3, q_sub4, q_sub5, q_rng2, q_rng2a, q_aS, q_aS1, q_aS2, q_aS3, q_aS4, q_aS5, q_aS5', q_aS7, behind_eq hb, hbt, isN_o, h0, len0, h1, hix, List.map_set, encO_s]
    | false =>
      cases h2 : (p.W b).any fun w => told.getD w none == some s with
      | true =>
        have e : fst1 p.W s told b = told.set b (some (s + 1)) := by
          unfold fst1 fc
          rw [h0, h1, h2]
          rfl
        rw [e]
        simp only [q_var, q_var1, q_var2, q_mv, q_mv1, q_mv2, q_c, q_pr, q_bin, q_bin1, q_bin2, q_dv, q_do, q_tst, q_tst1, q_isN, q_isN0, q_isN1, q_isN2, q_isN3, q_isN4, q_isN5, q_and, q_and1, q_and2, q_or, q_or1, q_or2, q_not, q_not1, q_yes, q_andV, q_andV1, q_andV2, q_orV, q_orV1, q_orV2, q_notV, q_notV1, q_ifE, q_ifE1, q_ifE2, q_nil, q_cons, q_cons1, q_cons2, q_tup, q_tup1, q_lst, q_lst1, q_cb, q_cb1, q_lenV, q_lenV1, q_seq, q_seq1, q_sl, q_st, q_so, q_sb, q_sf, q_mu, q_mu1, q_mu2, q_muS, q_muS1, q_muS2, q_app, q_app1, q_app2, q_pop, q_pop1, q_rev, q_rev1, q_isi, q_isi1, q_inV, q_inV1, q_ixV, q_ixV1, q_ixV2, q_ixV3, q_ixL, q_ixT, q_kV, q_fI, q_addI, q_eqI, q_eqS, q_eqB, q_int, q_tupL, q_tupT, q_listL, q_listT, q_len1, q_len2, q_neg, q_neg1, q_call, q_call2, q_call3, q_call4, q_cnil, q_ccons, q_ccons1, q_ccons2, q_cb', q_cb'1, q_ar0, q_ar1, q_ar2, q_ar3, q_ar4, q_ar5, q_put0, q_put1, q_put2, q_put3, q_put4, q_put5, q_bix0, q_bix1, q_bix2, q_sq, q_sq1, q_sq2, q_sq3, q_sq4, q_snil, q_ret, q_ret1, q_expr, q_expr1, q_ifS, q_ifS1, q_ifS2, q_set, q_set1, q_asg, q_asg1, q_gname, q_gnil, q_gcons, q_gcons1, q_par, q_par1, q_aug, q_aug1, q_aug2, q_rng, q_iseq, q_iseq1, q_sd1, q_sd2, q_kP2, q_fro, q_fro1, q_for, q_for1, q_k0, q_k1, q_w0, q_w1, q_lc, q_lc2, q_n1, q_n0, q_run, bO_b, bO_v, bO_n, finB0, finB1, q_at0, q_at1, q_at2, q_at3, q_bs, q_bn, q_ms, q_mn, q_g0, q_gs, q_s0, q_ss, List.head?_cons, List.tail_cons, List.map_cons, List.map_nil, List.length_cons, List.length_nil, List.cons_append, List.nil_append, List.replicate_succ, List.replicate_zero, Nat.reduceSub, Nat.reduceAdd, Bool.false_xor, Bool.true_xor, Bool.not_true, Bool.not_false, beq_self_eq_true, isBool, isInt, isStr, isTuple, q_callI, if_true, ite_true, List.nodup_nil, List.nodup_cons, List.not_mem_nil, not_false_eq_true, and_true, true_and, and_self, q_fg0, q_fg1, q_fg2, q_fg3, q_fg4, q_fg5, q_fg6, q_lg0, q_lg1, q_lg2, q_lg3, q_lg4, q_lg5, q_sub, q_sub1, q_sub2, q_sub3, q_sub4, q_sub5, q_rng2, q_rng2a, q_aS, q_aS1, q_aS2, q_aS3, q_aS4, q_aS5, q_aS5', q_aS7, behind_eq hb, hbt, isN_o, h0, len0, h1, q_lcI, hsz, hlc, hs, q_fin (sh_int _).shaped (sh_os told _), any_o, h2, hix, List.map_set, encO_s]
      | false =>
        have e : fst1 p.W s told b = told := by
          unfold fst1 fc
          rw [h0, h1, h2]
          rfl
        rw [e]
        simp only [q_var, q_var1, q_var2, q_mv, q_mv1, q_mv2, q_c, q_pr, q_bin, q_bin1, q_bin2, q_dv, q_do, q_tst, q_tst1, q_isN, q_isN0, q_isN1, q_isN2, q_isN3, q_isN4, q_isN5, q_and, q_and1, q_and2, q_or, q_or1, q_or2, q_not, q_not1, q_yes, q_andV, q_andV1, q_andV2, q_orV, q_orV1, q_orV2, q_notV, q_notV1, q_ifE, q_ifE1, q_ifE2, q_nil, q_cons, q_cons1, q_cons2, q_tup, q_tup1, q_lst, q_lst1, q_cb, q_cb1, q_lenV, q_lenV1, q_seq, q_seq1, q_sl, q_st, q_so, q_sb, q_sf, q_mu, q_mu1, q_mu2, q_muS, q_muS1, q_muS2, q_app, q_app1, q_app2, q_pop, q_pop1, q_rev, q_rev1, q_isi, q_isi1, q_inV, q_inV1, q_ixV, q_ixV1, q_ixV2, q_ixV3, q_ixL, q_ixT, q_kV, q_fI, q_addI, q_eqI, q_eqS, q_eqB, q_int, q_tupL, q_tupT, q_listL, q_listT, q_len1, q_len2, q_neg, q_neg1, q_call, q_call2, q_call3, q_call4, q_cnil, q_ccons, q_ccons1, q_ccons2, q_cb', q_cb'1, q_ar0, q_ar1, q_ar2, q_ar3, q_ar4, q_ar5, q_put0, q_put1, q_put2, q_put3, q_put4, q_put5, q_bix0, q_bix1, q_bix2, q_sq, q_sq1, q_sq2, q_sq3, q_sq4, q_snil, q_ret, q_ret1, q_expr, q_expr1, q_ifS, q_ifS1, q_ifS2, q_set, q_set1, q_asg, q_asg1, q_gname, q_gnil, q_gcons, q_gcons1, q_par, q_par1, q_aug, q_aug1, q_aug2, q_rng, q_iseq, q_iseq1, q_sd1, q_sd2, q_kP2, q_fro, q_fro1, q_for, q_for1, q_k0, q_k1, q_w0, q_w1, q_lc, q_lc2, q_n1, q_n0, q_run, bO_b, bO_v, bO_n, finB0, finB1, q_at0, q_at1, q_at2, q_at3, q_bs, q_bn, q_ms, q_mn, q_g0, q_gs, q_s0, q_ss, List.head?_cons, List.tail_cons, List.map_cons, List.map_nil, List.length_cons, List.length_nil, List.cons_append, List.nil_append, List.replicate_succ, List.replicate_zero, Nat.reduceSub, Nat.reduceAdd, Bool.false_xor, Bool.true_xor, Bool.not_true, Bool.not_false, beq_self_eq_true, isBool, isInt, isStr, isTuple, q_callI, if_true, ite_true, List.nodup_nil, List.nodup_cons, List.not_mem_nil, not_false_eq_true, and_true, true_and, and_self, q_fg0, q_fg1, q_fg2, q_fg3, q_fg4, q_fg5, q_fg6, q_lg0, q_lg1, q_lg2, q_lg3, q_lg4, q_lg5, q_sub, q_sub1, q_sub2, q_sub3, q_sub4, q_sub5, q_rng2, q_rng2a, q_aS, q_aS1, q_aS2, q_aS3, q_aS4, q_aS5, q_aS5', q_aS7, behind_eq hb, hbt, isN_o, h0, len0, h1, q_lcI, hsz, hlc, hs, q_fin (sh_int _).shaped (sh_os told _), any_o, h2]
theorem fw_round (p : Pg) (wf : p.Wf) (told : List (Option Nat)) (s : Nat) (hl : told.length = p.n) : (frnd p.W p.n told s).length = p.n ∧ ∃ ρ1 ρ2, rgName 2 (.int ((s + 1 : Nat) : Int)) [some (.val p.enc), some (.own (told.map encO)), none, none, none, none] = some ρ1 ∧ w_fewest_steps_3 ρ1 = some (.nx ρ2) ∧
      killE [2, 3, 4] ρ2 = [some (.val p.enc), some (.own ((frnd p.W p.n told s).map encO)), none, none, none, none] := by
  have hn := wf.small
  have H := for_fold (g := rgName 3) (b := w_fewest_steps_2) (ks := [3, 4]) (fun (n : Nat) => PyData.int (n : Int)) (envF p ((s + 1 : Nat) : Int)) (fst1 p.W s) (fun t => t.length = p.n) (fun b => b < p.n) (List.range p.n) told hl
      (fun a h => List.mem_range.mp h) fun x a hx ha => ⟨by rw [fst1_len]; exact hx, fw_step p wf s x a hx ha⟩
  refine ⟨H.2, [some (.val p.enc), some (.own (told.map encO)), some (.val (.int ((s + 1 : Nat) : Int))), none, none, none], envF p ((s + 1 : Nat) : Int) (frnd p.W p.n told s), rfl, ?_, rfl⟩
  have H1 := H.1
  rw [← rng0] at H1
  unfold w_fewest_steps_3
  have hl2 : ((told.map encO).length : Int) = (p.n : Int) := by rw [List.length_map, hl]
  unfold envF at H1
  simp only [q_var, q_var1, q_var2, q_mv, q_mv1, q_mv2, q_c, q_pr, q_bin, q_bin1, q_bin2, q_dv, q_do, q_tst, q_tst1, q_isN, q_isN0, q_isN1, q_isN2, q_isN3, q_isN4, q_isN5, q_and, q_and1, q_and2, q_or, q_or1, q_or2, q_not, q_not1, q_yes, q_andV, q_andV1, q_andV2, q_orV, q_orV1, q_orV2, q_notV, q_notV1, q_ifE, q_ifE1, q_ifE2, q_nil, q_cons, q_cons1, q_cons2, q_tup, q_tup1, q_lst, q_lst1, q_cb, q_cb1, q_lenV, q_lenV1, q_seq, q_seq1, q_sl, q_st, q_so, q_sb, q_sf, q_mu, q_mu1, q_mu2, q_muS, q_muS1, q_muS2, q_app, q_app1, q_app2, q_pop, q_pop1, q_rev, q_rev1, q_isi, q_isi1, q_inV, q_inV1, q_ixV, q_ixV1, q_ixV2, q_ixV3, q_ixL, q_ixT, q_kV, q_fI, q_addI, q_eqI, q_eqS, q_eqB, q_int, q_tupL, q_tupT, q_listL, q_listT, q_len1, q_len2, q_neg, q_neg1, q_call, q_call2, q_call3, q_call4, q_cnil, q_ccons, q_ccons1, q_ccons2, q_cb', q_cb'1, q_ar0, q_ar1, q_ar2, q_ar3, q_ar4, q_ar5, q_put0, q_put1, q_put2, q_put3, q_put4, q_put5, q_bix0, q_bix1, q_bix2, q_sq, q_sq1, q_sq2, q_sq3, q_sq4, q_snil, q_ret, q_ret1, q_expr, q_expr1, q_ifS, q_ifS1, q_ifS2, q_set, q_set1, q_asg, q_asg1, q_gname, q_gnil, q_gcons, q_gcons1, q_par, q_par1, q_aug, q_aug1, q_aug2, q_rng, q_iseq, q_iseq1, q_sd1, q_sd2, q_kP2, q_fro, q_fro1, q_for, q_for1, q_k0, q_k1, q_w0, q_w1, q_lc, q_lc2, q_n1, q_n0, q_run, bO_b, bO_v, bO_n, finB0, finB1, q_at0, q_at1, q_at2, q_at3, q_bs, q_bn, q_ms, q_mn, q_g0, q_gs, q_s0, q_ss, List.head?_cons, List.tail_cons, List.map_cons, List.map_nil, List.length_cons, List.length_nil, List.cons_append, List.nil_append, List.replicate_succ, List.replicate_zero, Nat.reduceSub, Nat.reduceAdd, Bool.false_xor, Bool.true_xor, Bool.not_true, Bool.not_false, beq_self_eq_true, isBool, isInt, isStr, isTuple, q_callI, if_true, ite_true, List.nodup_nil, List.nodup_cons, List.not_mem_nil, not_false_eq_true, and_true, true_and, and_self, q_fg0, q_fg1, q_fg2, q_fg3, q_fg4, q_fg5, q_fg6, q_lg0, q_lg1, q_lg2, q_lg3, q_lg4, q_lg5, q_sub, q_sub1, q_sub2, q_sub3, q_sub4, q_sub5, q_rng2, q_rng2a, q_aS, q_aS1, q_aS2, q_aS3, q_aS4, q_aS5, q_aS5', q_aS7, hl2, q_rng1 (n62 (show p.n ≤ 1000 by omega)), Int.toNat_natCast]
  rw [H1]
  rfl
theorem fewest_eq (p : Pg) (wf : p.Wf) : f_fewest_steps [.val p.enc] = some (.val (.list ((fewest p.W p.n).map encO)), [none]) := by
  have hn := wf.small
  have hr := fw_round p wf
  have H := for_fold (g := rgName 2) (b := w_fewest_steps_3) (ks := [2, 3, 4]) (fun (n : Nat) => PyData.int ((n + 1 : Nat) : Int)) (fun told => [some (.val p.enc), some (.own (told.map encO)), none, none, none, none]) (frnd p.W p.n) (fun t => t.length = p.n) (fun _ => True) (List.range p.n)
    (List.replicate p.n none) (by simp) (fun _ _ => trivial) fun x a hx _ => hr x a hx
  have H1 := H.1
  rw [← rng1] at H1
  unfold f_fewest_steps b_fewest_steps
  have e1 : ((p.bs.map encB).length : Int) = (p.n : Int) := by rw [len_enc]
  have hrep := q_rep (d := PyData.none) (k := p.n) (by omega) (by rw [Nat.one_mul]; exact sz_le (by omega))
  have e2 : ((((List.replicate p.n none).map encO).length : Nat) : Int) + 1 = ((p.n + 1 : Nat) : Int) := by rw [List.length_map, List.length_replicate]; omega
  have e3 : (List.replicate p.n PyData.none) = (List.replicate p.n none).map encO := by rw [List.map_replicate]; rfl
  have e4 := q_rng2b (i := 1) (j := ((p.n + 1 : Nat) : Int)) (ρ := [some (.val p.enc), some (.own ((List.replicate p.n none).map encO)), none, none, none, none]) (by omega)
  have e5 : (((p.n + 1 : Nat) : Int) - 1).toNat = p.n := by omega
  rw [e5] at e4
  unfold Pg.enc at H1 e4 ⊢
  simp only [q_var, q_var1, q_var2, q_mv, q_mv1, q_mv2, q_c, q_pr, q_bin, q_bin1, q_bin2, q_dv, q_do, q_tst, q_tst1, q_isN, q_isN0, q_isN1, q_isN2, q_isN3, q_isN4, q_isN5, q_and, q_and1, q_and2, q_or, q_or1, q_or2, q_not, q_not1, q_yes, q_andV, q_andV1, q_andV2, q_orV, q_orV1, q_orV2, q_notV, q_notV1, q_ifE, q_ifE1, q_ifE2, q_nil, q_cons, q_cons1, q_cons2, q_tup, q_tup1, q_lst, q_lst1, q_cb, q_cb1, q_lenV, q_lenV1, q_seq, q_seq1, q_sl, q_st, q_so, q_sb, q_sf, q_mu, q_mu1, q_mu2, q_muS, q_muS1, q_muS2, q_app, q_app1, q_app2, q_pop, q_pop1, q_rev, q_rev1, q_isi, q_isi1, q_inV, q_inV1, q_ixV, q_ixV1, q_ixV2, q_ixV3, q_ixL, q_ixT, q_kV, q_fI, q_addI, q_eqI, q_eqS, q_eqB, q_int, q_tupL, q_tupT, q_listL, q_listT, q_len1, q_len2, q_neg, q_neg1, q_call, q_call2, q_call3, q_call4, q_cnil, q_ccons, q_ccons1, q_ccons2, q_cb', q_cb'1, q_ar0, q_ar1, q_ar2, q_ar3, q_ar4, q_ar5, q_put0, q_put1, q_put2, q_put3, q_put4, q_put5, q_bix0, q_bix1, q_bix2, q_sq, q_sq1, q_sq2, q_sq3, q_sq4, q_snil, q_ret, q_ret1, q_expr, q_expr1, q_ifS, q_ifS1, q_ifS2, q_set, q_set1, q_asg, q_asg1, q_gname, q_gnil, q_gcons, q_gcons1, q_par, q_par1, q_aug, q_aug1, q_aug2, q_rng, q_iseq, q_iseq1, q_sd1, q_sd2, q_kP2, q_fro, q_fro1, q_for, q_for1, q_k0, q_k1, q_w0, q_w1, q_lc, q_lc2, q_n1, q_n0, q_run, bO_b, bO_v, bO_n, finB0, finB1, q_at0, q_at1, q_at2, q_at3, q_bs, q_bn, q_ms, q_mn, q_g0, q_gs, q_s0, q_ss, List.head?_cons, List.tail_cons, List.map_cons, List.map_nil, List.length_cons, List.length_nil, List.cons_append, List.nil_append, List.replicate_succ, List.replicate_zero, Nat.reduceSub, Nat.reduceAdd, Bool.false_xor, Bool.true_xor, Bool.not_true, Bool.not_false, beq_self_eq_true, isBool, isInt, isStr, isTuple, q_callI, if_true, ite_true, List.nodup_nil, List.nodup_cons, List.not_mem_nil, not_false_eq_true, and_true, true_and, and_self, q_fg0, q_fg1, q_fg2, q_fg3, q_fg4, q_fg5, q_fg6, q_lg0, q_lg1, q_lg2, q_lg3, q_lg4, q_lg5, q_sub, q_sub1, q_sub2, q_sub3, q_sub4, q_sub5, q_rng2, q_rng2a, q_aS, q_aS1, q_aS2, q_aS3, q_aS4, q_aS5, q_aS5', q_aS7, e1, hrep, e2, e3, e4, H1, fewest]
end K50

set_option Elab.async false
set_option linter.all false
set_option maxRecDepth 100000
set_option maxHeartbeats 4000000
namespace K50
open PySem L2 DL
theorem least_eq (p : Pg) (wf : p.Wf) {x : Option Nat} (hx : (fewest p.W p.n)[0]? = some x) : f_least_steps [.val p.enc] = some (.val (encO x), [none]) := by
  unfold f_least_steps b_least_steps
  have h1 : atI ((fewest p.W p.n).map encO) 0 = some (encO x) := at_map (k := 0) hx
  simp only [q_var, q_var1, q_var2, q_mv, q_mv1, q_mv2, q_c, q_pr, q_bin, q_bin1, q_bin2, q_dv, q_do, q_tst, q_tst1, q_isN, q_isN0, q_isN1, q_isN2, q_isN3, q_isN4, q_isN5, q_and, q_and1, q_and2, q_or, q_or1, q_or2, q_not, q_not1, q_yes, q_andV, q_andV1, q_andV2, q_orV, q_orV1, q_orV2, q_notV, q_notV1, q_ifE, q_ifE1, q_ifE2, q_nil, q_cons, q_cons1, q_cons2, q_tup, q_tup1, q_lst, q_lst1, q_cb, q_cb1, q_lenV, q_lenV1, q_seq, q_seq1, q_sl, q_st, q_so, q_sb, q_sf, q_mu, q_mu1, q_mu2, q_muS, q_muS1, q_muS2, q_app, q_app1, q_app2, q_pop, q_pop1, q_rev, q_rev1, q_isi, q_isi1, q_inV, q_inV1, q_ixV, q_ixV1, q_ixV2, q_ixV3, q_ixL, q_ixT, q_kV, q_fI, q_addI, q_eqI, q_eqS, q_eqB, q_int, q_tupL, q_tupT, q_listL, q_listT, q_len1, q_len2, q_neg, q_neg1, q_call, q_call2, q_call3, q_call4, q_cnil, q_ccons, q_ccons1, q_ccons2, q_cb', q_cb'1, q_ar0, q_ar1, q_ar2, q_ar3, q_ar4, q_ar5, q_put0, q_put1, q_put2, q_put3, q_put4, q_put5, q_bix0, q_bix1, q_bix2, q_sq, q_sq1, q_sq2, q_sq3, q_sq4, q_snil, q_ret, q_ret1, q_expr, q_expr1, q_ifS, q_ifS1, q_ifS2, q_set, q_set1, q_asg, q_asg1, q_gname, q_gnil, q_gcons, q_gcons1, q_par, q_par1, q_aug, q_aug1, q_aug2, q_rng, q_iseq, q_iseq1, q_sd1, q_sd2, q_kP2, q_fro, q_fro1, q_for, q_for1, q_k0, q_k1, q_w0, q_w1, q_lc, q_lc2, q_n1, q_n0, q_run, bO_b, bO_v, bO_n, finB0, finB1, q_at0, q_at1, q_at2, q_at3, q_bs, q_bn, q_ms, q_mn, q_g0, q_gs, q_s0, q_ss, List.head?_cons, List.tail_cons, List.map_cons, List.map_nil, List.length_cons, List.length_nil, List.cons_append, List.nil_append, List.replicate_succ, List.replicate_zero, Nat.reduceSub, Nat.reduceAdd, Bool.false_xor, Bool.true_xor, Bool.not_true, Bool.not_false, beq_self_eq_true, isBool, isInt, isStr, isTuple, q_callI, if_true, ite_true, List.nodup_nil, List.nodup_cons, List.not_mem_nil, not_false_eq_true, and_true, true_and, and_self, q_fg0, q_fg1, q_fg2, q_fg3, q_fg4, q_fg5, q_fg6, q_lg0, q_lg1, q_lg2, q_lg3, q_lg4, q_lg5, q_sub, q_sub1, q_sub2, q_sub3, q_sub4, q_sub5, q_rng2, q_rng2a, q_aS, q_aS1, q_aS2, q_aS3, q_aS4, q_aS5, q_aS5', q_aS7, fewest_eq p wf, h1]
/-! ### greatest_steps -/
theorem encO_n : encO none = .none := Eq.trans rfl rfl
theorem encN1 (w : Nat) : encN [w] = [.int (w : Int)] := Eq.trans rfl rfl
def gof (W : Nat → List Nat) (told : List (Option Nat)) (b : Nat) : Option Nat :=
  if ((W b).any fun w => (told.getD w none).isNone) = true then none else some (1 + ((W b).map fun w => (told.getD w none).getD 0).foldl max 0)
theorem gof_lc {told : List (Option Nat)} {n : Nat} (hl : told.length = n) {ws : List Nat} (hw : ∀ w ∈ ws, w < n) {x y z : Option S} :
    lcGo (rgName 4) rtYes e_greatest_of_1 [4] (encN ws) [] [x, some (.bor (told.map encO)), y, z, none] = some (ws.map fun w => encO (told.getD w none), [x, some (.bor (told.map encO)), y, z, none]) := by
  have := lc_map (g := rgName 4) (t := e_greatest_of_1) (vs := [4]) (fun (n : Nat) => PyData.int (n : Int)) (fun w => encO (told.getD w none)) (ρ := [x, some (.bor (told.map encO)), y, z, none]) ws [] fun w hm => by
    have h1 := at_told (told := told) (k := w) (by have := hw w hm; omega)
    refine ⟨[x, some (.bor (told.map encO)), y, z, some (.val (.int (w : Int)))], _, _, rfl, by unfold e_greatest_of_1; simp only [q_var, q_var1, q_var2, q_mv, q_mv1, q_mv2, q_c, q_pr, q_bin, q_bin1, q_bin2, q_dv, q_do, q_tst, q_tst1, q_isN, q_isN0, q_isN1, q_isN2, q_isN3, q_isN4, q_isN5, q_and, q_and1, q_and2, q_or, q_or1, q_or2, q_not, q_not1, q_yes, q_andV, q_andV1, q_andV2, q_orV, q_orV1, q_orV2, q_notV, q_notV1, q_ifE, q_ifE1, q_ifE2, q_nil, q_cons, q_cons1, q_cons2, q_tup, q_tup1, q_lst, q_lst1, q_cb, q_cb1, q_lenV, q_lenV1, q_seq, q_seq1, q_sl, q_st, q_so, q_sb, q_sf, q_mu, q_mu1, q_mu2, q_muS, q_muS1, q_muS2, q_app, q_app1, q_app2, q_pop, q_pop1, q_rev, q_rev1, q_isi, q_isi1, q_inV, q_inV1, q_ixV, q_ixV1, q_ixV2, q_ixV3, q_ixL, q_ixT, q_kV, q_fI, q_addI, q_eqI, q_eqS, q_eqB, q_int, q_tupL, q_tupT, q_listL, q_listT, q_len1, q_len2, q_neg, q_neg1, q_call, q_call2, q_call3, q_call4, q_cnil, q_ccons, q_ccons1, q_ccons2, q_cb', q_cb'1, q_ar0, q_ar1, q_ar2, q_ar3, q_ar4, q_ar5, q_put0, q_put1, q_put2, q_put3, q_put4, q_put5, q_bix0, q_bix1, q_bix2, q_sq, q_sq1, q_sq2, q_sq3, q_sq4, q_snil, q_ret, q_ret1, q_expr, q_expr1, q_ifS, q_ifS1, q_ifS2, q_set, q_set1, q_asg, q_asg1, q_gname, q_gnil, q_gcons, q_gcons1, q_par, q_par1, q_aug, q_aug1, q_aug2, q_rng, q_iseq, q_iseq1, q_sd1, q_sd2, q_kP2, q_fro, q_fro1, q_for, q_for1, q_k0, q_k1, q_w0, q_w1, q_lc, q_lc2, q_n1, q_n0, q_run, bO_b, bO_v, bO_n, finB0, finB1, q_at0, q_at1, q_at2, q_at3, q_bs, q_bn, q_ms, q_mn, q_g0, q_gs, q_s0, q_ss, List.head?_cons, List.tail_cons, List.map_cons, List.map_nil, List.length_cons, List.length_nil, List.cons_append, List.nil_append, List.replicate_succ, List.replicate_zero, Nat.reduceSub, Nat.reduceAdd, Bool.false_xor, Bool.true_xor, Bool.not_true, Bool.not_false, beq_self_eq_true, isBool, isInt, isStr, isTuple, q_callI, if_true, ite_true, List.nodup_nil, List.nodup_cons, List.not_mem_nil, not_false_eq_true, and_true, true_and, and_self, q_fg0, q_fg1, q_fg2, q_fg3, q_fg4, q_fg5, q_fg6, q_lg0, q_lg1, q_lg2, q_lg3, q_lg4, q_lg5, q_sub, q_sub1, q_sub2, q_sub3, q_sub4, q_sub5, q_rng2, q_rng2a, q_aS, q_aS1, q_aS2, q_aS3, q_aS4, q_aS5, q_aS5', q_aS7, h1]; rfl, rfl, rfl⟩
  rw [List.nil_append] at this
  exact this
theorem eqv_on (x : Option Nat) : PyData.eqv (encO x) .none = x.isNone := by cases x <;> rfl
theorem any_on (told : List (Option Nat)) (ws : List Nat) : inD .none (ws.map fun w => encO (told.getD w none)) = ws.any fun w => (told.getD w none).isNone := by
  unfold inD
  rw [List.any_map]
  congr 1
  funext w
  exact eqv_on _
theorem ints_o (told : List (Option Nat)) : ∀ (ws : List Nat), (ws.any fun w => (told.getD w none).isNone) = false → intsOf (ws.map fun w => encO (told.getD w none)) = some (ws.map fun w => (((told.getD w none).getD 0 : Nat) : Int))
  | [], _ => rfl
  | w :: ws, h => by
    rw [List.any_cons, Bool.or_eq_false_iff] at h
    have ih := ints_o told ws h.2
    cases e : told.getD w none with
    | none => rw [e] at h; cases h.1
    | some v =>
      rw [List.map_cons, e, List.map_cons, e]
      show (intsOf (ws.map fun w => encO (told.getD w none))).map ((v : Int) :: ·) = _
      rw [ih]
      rfl
theorem foldl_max_cast : ∀ (l : List Nat) (a : Nat), (l.map fun (n : Nat) => (n : Int)).foldl max (a : Int) = ((l.foldl max a : Nat) : Int)
  | [], a => rfl
  | x :: l, a => by
    rw [List.map_cons, List.foldl_cons, List.foldl_cons, show max (a : Int) (x : Int) = ((max a x : Nat) : Int) by omega]
    exact foldl_max_cast l _
theorem gof_eq (p : Pg) (wf : p.Wf) (told : List (Option Nat)) (hl : told.length = p.n) (b : Nat) (hb : b < p.n) :
    f_greatest_of [.val p.enc, .bor (told.map encO), .val (.int (b : Int))] = some (.val (encO (gof p.W told b)), [none, some (.bor (told.map encO)), none]) := by
  unfold f_greatest_of b_greatest_of
  have hsz : (encN (p.W b)).length ≤ sizeLine := sz_le (by have := W_len p b; rw [encN_len]; omega)
  have hlc := fun x y z => gof_lc hl (wf.go b) (x := x) (y := y) (z := z)
  have hsh := Sh.shaped sh_non
  cases h : (p.W b).any fun w => (told.getD w none).isNone with
  | true =>
    have e : gof p.W told b = none := by
      unfold gof
      rw [h]
      rfl
    rw [e]
    simp only [q_var, q_var1, q_var2, q_mv, q_mv1, q_mv2, q_c, q_pr, q_bin, q_bin1, q_bin2, q_dv, q_do, q_tst, q_tst1, q_isN, q_isN0, q_isN1, q_isN2, q_isN3, q_isN4, q_isN5, q_and, q_and1, q_and2, q_or, q_or1, q_or2, q_not, q_not1, q_yes, q_andV, q_andV1, q_andV2, q_orV, q_orV1, q_orV2, q_notV, q_notV1, q_ifE, q_ifE1, q_ifE2, q_nil, q_cons, q_cons1, q_cons2, q_tup, q_tup1, q_lst, q_lst1, q_cb, q_cb1, q_lenV, q_lenV1, q_seq, q_seq1, q_sl, q_st, q_so, q_sb, q_sf, q_mu, q_mu1, q_mu2, q_muS, q_muS1, q_muS2, q_app, q_app1, q_app2, q_pop, q_pop1, q_rev, q_rev1, q_isi, q_isi1, q_inV, q_inV1, q_ixV, q_ixV1, q_ixV2, q_ixV3, q_ixL, q_ixT, q_kV, q_fI, q_addI, q_eqI, q_eqS, q_eqB, q_int, q_tupL, q_tupT, q_listL, q_listT, q_len1, q_len2, q_neg, q_neg1, q_call, q_call2, q_call3, q_call4, q_cnil, q_ccons, q_ccons1, q_ccons2, q_cb', q_cb'1, q_ar0, q_ar1, q_ar2, q_ar3, q_ar4, q_ar5, q_put0, q_put1, q_put2, q_put3, q_put4, q_put5, q_bix0, q_bix1, q_bix2, q_sq, q_sq1, q_sq2, q_sq3, q_sq4, q_snil, q_ret, q_ret1, q_expr, q_expr1, q_ifS, q_ifS1, q_ifS2, q_set, q_set1, q_asg, q_asg1, q_gname, q_gnil, q_gcons, q_gcons1, q_par, q_par1, q_aug, q_aug1, q_aug2, q_rng, q_iseq, q_iseq1, q_sd1, q_sd2, q_kP2, q_fro, q_fro1, q_for, q_for1, q_k0, q_k1, q_w0, q_w1, q_lc, q_lc2, q_n1, q_n0, q_run, bO_b, bO_v, bO_n, finB0, finB1, q_at0, q_at1, q_at2, q_at3, q_bs, q_bn, q_ms, q_mn, q_g0, q_gs, q_s0, q_ss, List.head?_cons, List.tail_cons, List.map_cons, List.map_nil, List.length_cons, List.length_nil, List.cons_append, List.nil_append, List.replicate_succ, List.replicate_zero, Nat.reduceSub, Nat.reduceAdd, Bool.false_xor, Bool.true_xor, Bool.not_true, Bool.not_false, beq_self_eq_true, isBool, isInt, isStr, isTuple, q_callI, if_true, ite_true, List.nodup_nil, List.nodup_cons, List.not_mem_nil, not_false_eq_true, and_true, true_and, and_self, q_fg0, q_fg1, q_fg2, q_fg3, q_fg4, q_fg5, q_fg6, q_lg0, q_lg1, q_lg2, q_lg3, q_lg4, q_lg5, q_sub, q_sub1, q_sub2, q_sub3, q_sub4, q_sub5, q_rng2, q_rng2a, q_aS, q_aS1, q_aS2, q_aS3, q_aS4, q_aS5, q_aS5', q_aS7, behind_eq hb, q_lcI, hsz, hlc, q_inV2, S.d, hsh, sh_os told _, any_on, h, encO_n]
  | false =>
    have e : gof p.W told b = some (1 + ((p.W b).map fun w => (told.getD w none).getD 0).foldl max 0) := by
      unfold gof
      rw [h]
      rfl
    have hm : fMax [.list ([PyData.int 0] ++ (p.W b).map fun w => encO (told.getD w none))] = some (.val (.int ((((p.W b).map fun w => (told.getD w none).getD 0).foldl max 0 : Nat) : Int))) := by
      have h1 : intsOf ([PyData.int 0] ++ (p.W b).map fun w => encO (told.getD w none)) = some (0 :: (p.W b).map fun w => (((told.getD w none).getD 0 : Nat) : Int)) := by
        show (intsOf ((p.W b).map fun w => encO (told.getD w none))).map ((0 : Int) :: ·) = _
        rw [ints_o told _ h]
        rfl
      show (intsOf _).bind (fun ns => (maxI ns).map S.val) = _
      rw [h1]
      show some (S.val (.int (((p.W b).map fun w => (((told.getD w none).getD 0 : Nat) : Int)).foldl max 0))) = _
      have := foldl_max_cast ((p.W b).map fun w => (told.getD w none).getD 0) 0
      rw [List.map_map] at this
      rw [← this]
      rfl
    have ha : fAdd (.list [PyData.int 0]) (.list ((p.W b).map fun w => encO (told.getD w none))) = some (.own ([PyData.int 0] ++ (p.W b).map fun w => encO (told.getD w none))) := q_addL (sz_le (by have := W_len p b; simp; omega))
    have hf : (1 : Int) + ((((p.W b).map fun w => (told.getD w none).getD 0).foldl max 0 : Nat) : Int) = ((1 + ((p.W b).map fun w => (told.getD w none).getD 0).foldl max 0 : Nat) : Int) := by omega
    rw [e]
    simp only [List.cons_append, List.nil_append] at hm ha
    simp only [q_var, q_var1, q_var2, q_mv, q_mv1, q_mv2, q_c, q_pr, q_bin, q_bin1, q_bin2, q_dv, q_do, q_tst, q_tst1, q_isN, q_isN0, q_isN1, q_isN2, q_isN3, q_isN4, q_isN5, q_and, q_and1, q_and2, q_or, q_or1, q_or2, q_not, q_not1, q_yes, q_andV, q_andV1, q_andV2, q_orV, q_orV1, q_orV2, q_notV, q_notV1, q_ifE, q_ifE1, q_ifE2, q_nil, q_cons, q_cons1, q_cons2, q_tup, q_tup1, q_lst, q_lst1, q_cb, q_cb1, q_lenV, q_lenV1, q_seq, q_seq1, q_sl, q_st, q_so, q_sb, q_sf, q_mu, q_mu1, q_mu2, q_muS, q_muS1, q_muS2, q_app, q_app1, q_app2, q_pop, q_pop1, q_rev, q_rev1, q_isi, q_isi1, q_inV, q_inV1, q_ixV, q_ixV1, q_ixV2, q_ixV3, q_ixL, q_ixT, q_kV, q_fI, q_addI, q_eqI, q_eqS, q_eqB, q_int, q_tupL, q_tupT, q_listL, q_listT, q_len1, q_len2, q_neg, q_neg1, q_call, q_call2, q_call3, q_call4, q_cnil, q_ccons, q_ccons1, q_ccons2, q_cb', q_cb'1, q_ar0, q_ar1, q_ar2, q_ar3, q_ar4, q_ar5, q_put0, q_put1, q_put2, q_put3, q_put4, q_put5, q_bix0, q_bix1, q_bix2, q_sq, q_sq1, q_sq2, q_sq3, q_sq4, q_snil, q_ret, q_ret1, q_expr, q_expr1, q_ifS, q_ifS1, q_ifS2, q_set, q_set1, q_asg, q_asg1, q_gname, q_gnil, q_gcons, q_gcons1, q_par, q_par1, q_aug, q_aug1, q_aug2, q_rng, q_iseq, q_iseq1, q_sd1, q_sd2, q_kP2, q_fro, q_fro1, q_for, q_for1, q_k0, q_k1, q_w0, q_w1, q_lc, q_lc2, q_n1, q_n0, q_run, bO_b, bO_v, bO_n, finB0, finB1, q_at0, q_at1, q_at2, q_at3, q_bs, q_bn, q_ms, q_mn, q_g0, q_gs, q_s0, q_ss, List.head?_cons, List.tail_cons, List.map_cons, List.map_nil, List.length_cons, List.length_nil, List.cons_append, List.nil_append, List.replicate_succ, List.replicate_zero, Nat.reduceSub, Nat.reduceAdd, Bool.false_xor, Bool.true_xor, Bool.not_true, Bool.not_false, beq_self_eq_true, isBool, isInt, isStr, isTuple, q_callI, if_true, ite_true, List.nodup_nil, List.nodup_cons, List.not_mem_nil, not_false_eq_true, and_true, true_and, and_self, q_fg0, q_fg1, q_fg2, q_fg3, q_fg4, q_fg5, q_fg6, q_lg0, q_lg1, q_lg2, q_lg3, q_lg4, q_lg5, q_sub, q_sub1, q_sub2, q_sub3, q_sub4, q_sub5, q_rng2, q_rng2a, q_aS, q_aS1, q_aS2, q_aS3, q_aS4, q_aS5, q_aS5', q_aS7, behind_eq hb, q_lcI, hsz, hlc, q_inV2, S.d, hsh, sh_os told _, any_on, h, encO_s, ha, hm, hf]
/-! ### found_from, reached -/
def addN (found : List Nat) (w : Nat) : List Nat := if w ∈ found then found else found ++ [w]
structure Fd (p : Pg) (found : List Nat) (at_ : Nat) : Prop where
  zero : 0 ∈ found
  nd : found.Nodup
  lt : ∀ b ∈ found, b < p.n
  le : at_ ≤ found.length
  cl : ∀ (i b w : Nat), i < at_ → found[i]? = some b → w ∈ p.W b → w ∈ found
theorem nd_len : ∀ (n : Nat) (l : List Nat), l.Nodup → (∀ b ∈ l, b < n) → l.length ≤ n
  | 0, l, _, h => by
    cases l with
    | nil => simp
    | cons a r => exact absurd (h a (by simp)) (by omega)
  | n + 1, l, nd, h => by
    have h1 : (l.filter fun b => decide (b ≠ n)).length ≤ n := nd_len n _ (nd.filter _) fun b hb => by
      obtain ⟨h2, h3⟩ := List.mem_filter.mp hb
      have := h b h2
      have := of_decide_eq_true h3
      omega
    have h2 : l.length ≤ (l.filter fun b => decide (b ≠ n)).length + 1 := by
      clear h h1
      induction l with
      | nil => simp
      | cons a r ih =>
        have nd' := List.nodup_cons.mp nd
        by_cases e : a = n
        · subst e
          have : (r.filter fun b => decide (b ≠ a)) = r := List.filter_eq_self.mpr fun b hb => decide_eq_true fun z => nd'.1 (by rw [← z]; exact hb)
          rw [List.filter_cons_of_neg (by simp), this, List.length_cons]
          omega
        · rw [List.filter_cons_of_pos (by simpa using e), List.length_cons, List.length_cons]
          have := ih nd'.2
          omega
    omega
theorem addN_mem {found : List Nat} {w b : Nat} : b ∈ addN found w ↔ b ∈ found ∨ b = w := by
  unfold addN
  split
  · rename_i h
    constructor
    · exact .inl
    · rintro (h' | rfl)
      · exact h'
      · exact h
  · simp
theorem addN_nd {found : List Nat} {w : Nat} (h : found.Nodup) : (addN found w).Nodup := by
  unfold addN
  split
  · exact h
  · rename_i hn
    rw [List.nodup_append]
    refine ⟨h, by simp, fun a ha b hb => ?_⟩
    have : b = w := by simpa using hb
    subst this
    intro e
    exact hn (by rw [← e]; exact ha)
theorem addN_pre {found : List Nat} {w : Nat} : ∃ r, addN found w = found ++ r := by
  unfold addN
  split
  · exact ⟨[], by simp⟩
  · exact ⟨[w], rfl⟩
theorem addAll {ws : List Nat} : ∀ {found : List Nat}, found.Nodup → (ws.foldl addN found).Nodup ∧ (∃ r, ws.foldl addN found = found ++ r) ∧ ∀ b, b ∈ ws.foldl addN found ↔ b ∈ found ∨ b ∈ ws := by
  induction ws with
  | nil => intro found h; exact ⟨h, ⟨[], by simp⟩, fun b => by simp⟩
  | cons w ws ih =>
    intro found h
    obtain ⟨h1, ⟨r, h2⟩, h3⟩ := ih (addN_nd (w := w) h)
    obtain ⟨r0, h0⟩ := addN_pre (found := found) (w := w)
    refine ⟨h1, ⟨r0 ++ r, by rw [List.foldl_cons, h2, h0, List.append_assoc]⟩, fun b => ?_⟩
    rw [List.foldl_cons, h3, addN_mem]
    simp only [List.mem_cons]
    constructor
    · rintro ((h | h) | h)
      · exact .inl h
      · exact .inr (.inl h)
      · exact .inr (.inr h)
    · rintro (h | h | h)
      · exact .inl (.inl h)
      · exact .inl (.inr h)
      · exact .inr h
def envD (p : Pg) (found : List Nat) (at_ : Nat) (x : Option S) : En := [some (.val p.enc), some (.val (.int 0)), some (.own (encN found)), some (.val (.int (at_ : Int))), x]
theorem inN (w : Nat) (found : List Nat) : inD (.int (w : Int)) (encN found) = decide (w ∈ found) := by
  unfold inD encN
  rw [List.any_map]
  induction found with
  | nil => rfl
  | cons a r ih =>
    rw [List.any_cons, ih]
    have e : ((fun z => PyData.eqv z (.int (w : Int))) ∘ fun (n : Nat) => PyData.int (n : Int)) a = decide (w = a) := by
      show ((a : Int) == (w : Int)) = _
      by_cases h : w = a
      · subst h; simp
      · rw [decide_eq_false h, beq_eq_false_iff_ne]; omega
    rw [e]
    by_cases h : w = a
    · simp [h]
    · simp [h]
theorem shN (ns : List Nat) : SeqAt.shaped (.list (encN ns)) = true := (sh_list (k := 0) fun d hd => by
  obtain ⟨w, _, rfl⟩ := List.mem_map.mp hd
  exact sh_int _).shaped
theorem encN_app (a b : List Nat) : encN (a ++ b) = encN a ++ encN b := List.map_append
theorem ff1 (p : Pg) (wf : p.Wf) (at_ : Nat) (found : List Nat) (w : Nat) (hf : found.length ≤ 1000) :
    ∃ ρ1 ρ2, rgName 4 (.int (w : Int)) (envD p found at_ none) = some ρ1 ∧ w_found_from_1 ρ1 = some (.nx ρ2) ∧ killE [4] ρ2 = envD p (addN found w) at_ none := by
  refine ⟨_, envD p (addN found w) at_ (some (.val (.int (w : Int)))), rfl, ?_, rfl⟩
  unfold w_found_from_1 envD
  have h1 := Sh.shaped (sh_int (w : Int))
  have h2 := shN found
  have h3 := inN w found
  by_cases h : w ∈ found
  · have e : addN found w = found := if_pos h
    rw [decide_eq_true h] at h3
    rw [e]
    simp only [q_var, q_var1, q_var2, q_mv, q_mv1, q_mv2, q_c, q_pr, q_bin, q_bin1, q_bin2, q_dv, q_do, q_tst, q_tst1, q_isN, q_isN0, q_isN1, q_isN2, q_isN3, q_isN4, q_isN5, q_and, q_and1, q_and2, q_or, q_or1, q_or2, q_not, q_not1, q_yes, q_andV, q_andV1, q_andV2, q_orV, q_orV1, q_orV2, q_notV, q_notV1, q_ifE, q_ifE1, q_ifE2, q_nil, q_cons, q_cons1, q_cons2, q_tup, q_tup1, q_lst, q_lst1, q_cb, q_cb1, q_lenV, q_lenV1, q_seq, q_seq1, q_sl, q_st, q_so, q_sb, q_sf, q_mu, q_mu1, q_mu2, q_muS, q_muS1, q_muS2, q_app, q_app1, q_app2, q_pop, q_pop1, q_rev, q_rev1, q_isi, q_isi1, q_inV, q_inV1, q_ixV, q_ixV1, q_ixV2, q_ixV3, q_ixL, q_ixT, q_kV, q_fI, q_addI, q_eqI, q_eqS, q_eqB, q_int, q_tupL, q_tupT, q_listL, q_listT, q_len1, q_len2, q_neg, q_neg1, q_call, q_call2, q_call3, q_call4, q_cnil, q_ccons, q_ccons1, q_ccons2, q_cb', q_cb'1, q_ar0, q_ar1, q_ar2, q_ar3, q_ar4, q_ar5, q_put0, q_put1, q_put2, q_put3, q_put4, q_put5, q_bix0, q_bix1, q_bix2, q_sq, q_sq1, q_sq2, q_sq3, q_sq4, q_snil, q_ret, q_ret1, q_expr, q_expr1, q_ifS, q_ifS1, q_ifS2, q_set, q_set1, q_asg, q_asg1, q_gname, q_gnil, q_gcons, q_gcons1, q_par, q_par1, q_aug, q_aug1, q_aug2, q_rng, q_iseq, q_iseq1, q_sd1, q_sd2, q_kP2, q_fro, q_fro1, q_for, q_for1, q_k0, q_k1, q_w0, q_w1, q_lc, q_lc2, q_n1, q_n0, q_run, bO_b, bO_v, bO_n, finB0, finB1, q_at0, q_at1, q_at2, q_at3, q_bs, q_bn, q_ms, q_mn, q_g0, q_gs, q_s0, q_ss, List.head?_cons, List.tail_cons, List.map_cons, List.map_nil, List.length_cons, List.length_nil, List.cons_append, List.nil_append, List.replicate_succ, List.replicate_zero, Nat.reduceSub, Nat.reduceAdd, Bool.false_xor, Bool.true_xor, Bool.not_true, Bool.not_false, beq_self_eq_true, isBool, isInt, isStr, isTuple, q_callI, if_true, ite_true, List.nodup_nil, List.nodup_cons, List.not_mem_nil, not_false_eq_true, and_true, true_and, and_self, q_fg0, q_fg1, q_fg2, q_fg3, q_fg4, q_fg5, q_fg6, q_lg0, q_lg1, q_lg2, q_lg3, q_lg4, q_lg5, q_sub, q_sub1, q_sub2, q_sub3, q_sub4, q_sub5, q_rng2, q_rng2a, q_aS, q_aS1, q_aS2, q_aS3, q_aS4, q_aS5, q_aS5', q_aS7, q_inV2, S.d, h1, h2, h3]
  · have e : addN found w = found ++ [w] := if_neg h
    rw [decide_eq_false h] at h3
    have hz : (encN found).length < sizeLine := by rw [encN_len]; exact sz_lt (by omega)
    rw [e, encN_app]
    simp only [q_var, q_var1, q_var2, q_mv, q_mv1, q_mv2, q_c, q_pr, q_bin, q_bin1, q_bin2, q_dv, q_do, q_tst, q_tst1, q_isN, q_isN0, q_isN1, q_isN2, q_isN3, q_isN4, q_isN5, q_and, q_and1, q_and2, q_or, q_or1, q_or2, q_not, q_not1, q_yes, q_andV, q_andV1, q_andV2, q_orV, q_orV1, q_orV2, q_notV, q_notV1, q_ifE, q_ifE1, q_ifE2, q_nil, q_cons, q_cons1, q_cons2, q_tup, q_tup1, q_lst, q_lst1, q_cb, q_cb1, q_lenV, q_lenV1, q_seq, q_seq1, q_sl, q_st, q_so, q_sb, q_sf, q_mu, q_mu1, q_mu2, q_muS, q_muS1, q_muS2, q_app, q_app1, q_app2, q_pop, q_pop1, q_rev, q_rev1, q_isi, q_isi1, q_inV, q_inV1, q_ixV, q_ixV1, q_ixV2, q_ixV3, q_ixL, q_ixT, q_kV, q_fI, q_addI, q_eqI, q_eqS, q_eqB, q_int, q_tupL, q_tupT, q_listL, q_listT, q_len1, q_len2, q_neg, q_neg1, q_call, q_call2, q_call3, q_call4, q_cnil, q_ccons, q_ccons1, q_ccons2, q_cb', q_cb'1, q_ar0, q_ar1, q_ar2, q_ar3, q_ar4, q_ar5, q_put0, q_put1, q_put2, q_put3, q_put4, q_put5, q_bix0, q_bix1, q_bix2, q_sq, q_sq1, q_sq2, q_sq3, q_sq4, q_snil, q_ret, q_ret1, q_expr, q_expr1, q_ifS, q_ifS1, q_ifS2, q_set, q_set1, q_asg, q_asg1, q_gname, q_gnil, q_gcons, q_gcons1, q_par, q_par1, q_aug, q_aug1, q_aug2, q_rng, q_iseq, q_iseq1, q_sd1, q_sd2, q_kP2, q_fro, q_fro1, q_for, q_for1, q_k0, q_k1, q_w0, q_w1, q_lc, q_lc2, q_n1, q_n0, q_run, bO_b, bO_v, bO_n, finB0, finB1, q_at0, q_at1, q_at2, q_at3, q_bs, q_bn, q_ms, q_mn, q_g0, q_gs, q_s0, q_ss, List.head?_cons, List.tail_cons, List.map_cons, List.map_nil, List.length_cons, List.length_nil, List.cons_append, List.nil_append, List.replicate_succ, List.replicate_zero, Nat.reduceSub, Nat.reduceAdd, Bool.false_xor, Bool.true_xor, Bool.not_true, Bool.not_false, beq_self_eq_true, isBool, isInt, isStr, isTuple, q_callI, if_true, ite_true, List.nodup_nil, List.nodup_cons, List.not_mem_nil, not_false_eq_true, and_true, true_and, and_self, q_fg0, q_fg1, q_fg2, q_fg3, q_fg4, q_fg5, q_fg6, q_lg0, q_lg1, q_lg2, q_lg3, q_lg4, q_lg5, q_sub, q_sub1, q_sub2, q_sub3, q_sub4, q_sub5, q_rng2, q_rng2a, q_aS, q_aS1, q_aS2, q_aS3, q_aS4, q_aS5, q_aS5', q_aS7, q_inV2, S.d, h1, h2, h3, q_app3, hz, encN1]
theorem ff_go (p : Pg) (wf : p.Wf) : ∀ (k at_ : Nat) (found : List Nat) (fuel : Nat), Fd p found at_ → p.n - at_ ≤ k → k < fuel →
    ∃ found', whGo t_found_from_2 w_found_from_3 [4] fuel (envD p found at_ none) = some (.nx (envD p found' found'.length none)) ∧ Fd p found' found'.length := by
  intro k
  induction k with
  | zero =>
    intro at_ found fuel F hk hf
    obtain ⟨f, rfl⟩ : ∃ f, fuel = f + 1 := ⟨fuel - 1, by omega⟩
    have hlen := nd_len p.n found F.nd F.lt
    have e : at_ = found.length := by have := F.le; omega
    subst e
    refine ⟨found, ?_, F⟩
    have ht : t_found_from_2 (envD p found found.length none) = some (false, envD p found found.length none) := by
      unfold t_found_from_2 envD
      simp only [q_var, q_var1, q_var2, q_mv, q_mv1, q_mv2, q_c, q_pr, q_bin, q_bin1, q_bin2, q_dv, q_do, q_tst, q_tst1, q_isN, q_isN0, q_isN1, q_isN2, q_isN3, q_isN4, q_isN5, q_and, q_and1, q_and2, q_or, q_or1, q_or2, q_not, q_not1, q_yes, q_andV, q_andV1, q_andV2, q_orV, q_orV1, q_orV2, q_notV, q_notV1, q_ifE, q_ifE1, q_ifE2, q_nil, q_cons, q_cons1, q_cons2, q_tup, q_tup1, q_lst, q_lst1, q_cb, q_cb1, q_lenV, q_lenV1, q_seq, q_seq1, q_sl, q_st, q_so, q_sb, q_sf, q_mu, q_mu1, q_mu2, q_muS, q_muS1, q_muS2, q_app, q_app1, q_app2, q_pop, q_pop1, q_rev, q_rev1, q_isi, q_isi1, q_inV, q_inV1, q_ixV, q_ixV1, q_ixV2, q_ixV3, q_ixL, q_ixT, q_kV, q_fI, q_addI, q_eqI, q_eqS, q_eqB, q_int, q_tupL, q_tupT, q_listL, q_listT, q_len1, q_len2, q_neg, q_neg1, q_call, q_call2, q_call3, q_call4, q_cnil, q_ccons, q_ccons1, q_ccons2, q_cb', q_cb'1, q_ar0, q_ar1, q_ar2, q_ar3, q_ar4, q_ar5, q_put0, q_put1, q_put2, q_put3, q_put4, q_put5, q_bix0, q_bix1, q_bix2, q_sq, q_sq1, q_sq2, q_sq3, q_sq4, q_snil, q_ret, q_ret1, q_expr, q_expr1, q_ifS, q_ifS1, q_ifS2, q_set, q_set1, q_asg, q_asg1, q_gname, q_gnil, q_gcons, q_gcons1, q_par, q_par1, q_aug, q_aug1, q_aug2, q_rng, q_iseq, q_iseq1, q_sd1, q_sd2, q_kP2, q_fro, q_fro1, q_for, q_for1, q_k0, q_k1, q_w0, q_w1, q_lc, q_lc2, q_n1, q_n0, q_run, bO_b, bO_v, bO_n, finB0, finB1, q_at0, q_at1, q_at2, q_at3, q_bs, q_bn, q_ms, q_mn, q_g0, q_gs, q_s0, q_ss, List.head?_cons, List.tail_cons, List.map_cons, List.map_nil, List.length_cons, List.length_nil, List.cons_append, List.nil_append, List.replicate_succ, List.replicate_zero, Nat.reduceSub, Nat.reduceAdd, Bool.false_xor, Bool.true_xor, Bool.not_true, Bool.not_false, beq_self_eq_true, isBool, isInt, isStr, isTuple, q_callI, if_true, ite_true, List.nodup_nil, List.nodup_cons, List.not_mem_nil, not_false_eq_true, and_true, true_and, and_self, q_fg0, q_fg1, q_fg2, q_fg3, q_fg4, q_fg5, q_fg6, q_lg0, q_lg1, q_lg2, q_lg3, q_lg4, q_lg5, q_sub, q_sub1, q_sub2, q_sub3, q_sub4, q_sub5, q_rng2, q_rng2a, q_aS, q_aS1, q_aS2, q_aS3, q_aS4, q_aS5, q_aS5', q_aS7, encN_len, Int.lt_irrefl, decide_false]
    rw [wh_end ht]
    rfl
  | succ k ih =>
    intro at_ found fuel F hk hf
    obtain ⟨f, rfl⟩ : ∃ f, fuel = f + 1 := ⟨fuel - 1, by omega⟩
    have hlen := nd_len p.n found F.nd F.lt
    by_cases hlt : at_ < found.length
    · obtain ⟨b, hb⟩ : ∃ b, found[at_]? = some b := ⟨_, List.getElem?_eq_getElem hlt⟩
      have hbn : b < p.n := F.lt b (List.mem_of_getElem? hb)
      obtain ⟨a1, ⟨r, a2⟩, a3⟩ := addAll (ws := p.W b) F.nd
      have F2 : Fd p ((p.W b).foldl addN found) (at_ + 1) := by
        refine ⟨(a3 0).mpr (.inl F.zero), a1, fun c hc => ?_, by rw [a2, List.length_append]; omega, fun i c w hi hc hw => ?_⟩
        · rcases (a3 c).mp hc with h | h
          · exact F.lt c h
          · exact wf.go b c h
        · by_cases e : i = at_
          · subst e
            rw [a2, List.getElem?_append_left hlt, hb] at hc
            cases hc
            exact (a3 w).mpr (.inr hw)
          · rw [a2, List.getElem?_append_left (by omega)] at hc
            exact (a3 w).mpr (.inl (F.cl i c w (by omega) hc hw))
      obtain ⟨found', h1, h2⟩ := ih (at_ + 1) _ f F2 (by omega) (by omega)
      refine ⟨found', ?_, h2⟩
      have ht : t_found_from_2 (envD p found at_ none) = some (true, envD p found at_ none) := by
        unfold t_found_from_2 envD
        have hd : decide ((at_ : Int) < ((found.length : Nat) : Int)) = true := decide_eq_true (by omega)
        simp only [q_var, q_var1, q_var2, q_mv, q_mv1, q_mv2, q_c, q_pr, q_bin, q_bin1, q_bin2, q_dv, q_do, q_tst, q_tst1, q_isN, q_isN0, q_isN1, q_isN2, q_isN3, q_isN4, q_isN5, q_and, q_and1, q_and2, q_or, q_or1, q_or2, q_not, q_not1, q_yes, q_andV, q_andV1, q_andV2, q_orV, q_orV1, q_orV2, q_notV, q_notV1, q_ifE, q_ifE1, q_ifE2, q_nil, q_cons, q_cons1, q_cons2, q_tup, q_tup1, q_lst, q_lst1, q_cb, q_cb1, q_lenV, q_lenV1, q_seq, q_seq1, q_sl, q_st, q_so, q_sb, q_sf, q_mu, q_mu1, q_mu2, q_muS, q_muS1, q_muS2, q_app, q_app1, q_app2, q_pop, q_pop1, q_rev, q_rev1, q_isi, q_isi1, q_inV, q_inV1, q_ixV, q_ixV1, q_ixV2, q_ixV3, q_ixL, q_ixT, q_kV, q_fI, q_addI, q_eqI, q_eqS, q_eqB, q_int, q_tupL, q_tupT, q_listL, q_listT, q_len1, q_len2, q_neg, q_neg1, q_call, q_call2, q_call3, q_call4, q_cnil, q_ccons, q_ccons1, q_ccons2, q_cb', q_cb'1, q_ar0, q_ar1, q_ar2, q_ar3, q_ar4, q_ar5, q_put0, q_put1, q_put2, q_put3, q_put4, q_put5, q_bix0, q_bix1, q_bix2, q_sq, q_sq1, q_sq2, q_sq3, q_sq4, q_snil, q_ret, q_ret1, q_expr, q_expr1, q_ifS, q_ifS1, q_ifS2, q_set, q_set1, q_asg, q_asg1, q_gname, q_gnil, q_gcons, q_gcons1, q_par, q_par1, q_aug, q_aug1, q_aug2, q_rng, q_iseq, q_iseq1, q_sd1, q_sd2, q_kP2, q_fro, q_fro1, q_for, q_for1, q_k0, q_k1, q_w0, q_w1, q_lc, q_lc2, q_n1, q_n0, q_run, bO_b, bO_v, bO_n, finB0, finB1, q_at0, q_at1, q_at2, q_at3, q_bs, q_bn, q_ms, q_mn, q_g0, q_gs, q_s0, q_ss, List.head?_cons, List.tail_cons, List.map_cons, List.map_nil, List.length_cons, List.length_nil, List.cons_append, List.nil_append, List.replicate_succ, List.replicate_zero, Nat.reduceSub, Nat.reduceAdd, Bool.false_xor, Bool.true_xor, Bool.not_true, Bool.not_false, beq_self_eq_true, isBool, isInt, isStr, isTuple, q_callI, if_true, ite_true, List.nodup_nil, List.nodup_cons, List.not_mem_nil, not_false_eq_true, and_true, true_and, and_self, q_fg0, q_fg1, q_fg2, q_fg3, q_fg4, q_fg5, q_fg6, q_lg0, q_lg1, q_lg2, q_lg3, q_lg4, q_lg5, q_sub, q_sub1, q_sub2, q_sub3, q_sub4, q_sub5, q_rng2, q_rng2a, q_aS, q_aS1, q_aS2, q_aS3, q_aS4, q_aS5, q_aS5', q_aS7, encN_len, hd]
      have hn := wf.small
      have H := for_fold (g := rgName 4) (b := w_found_from_1) (ks := [4]) (fun (n : Nat) => PyData.int (n : Int)) (fun fd => envD p fd at_ none) addN (fun fd => fd.Nodup ∧ ∀ b ∈ fd, b < p.n) (fun w => w < p.n) (p.W b) found ⟨F.nd, F.lt⟩ (wf.go b) fun x a hx ha =>
        ⟨⟨addN_nd hx.1, fun c hc => (addN_mem.mp hc).elim (hx.2 c) fun e => e ▸ ha⟩, ff1 p wf at_ x a (by have := nd_len p.n x hx.1 hx.2; omega)⟩
      have H1 : forGo (rgName 4) w_found_from_1 [4] (encN (p.W b)) (envD p found at_ none) = _ := H.1
      obtain ⟨x, hx, hax, hwx⟩ := blk_at hbn
      have hb2 : atI (encN found) (at_ : Int) = some (.int (b : Int)) := at_map hb
      have hw3 : w_found_from_3 (envD p found at_ none) = some (.nx (envD p ((p.W b).foldl addN found) (at_ + 1) none)) := by
        unfold w_found_from_3
        have e1 : ((at_ : Int) + 1) = ((at_ + 1 : Nat) : Int) := by omega
        unfold envD Pg.enc at H1 ⊢
        simp only [q_var, q_var1, q_var2, q_mv, q_mv1, q_mv2, q_c, q_pr, q_bin, q_bin1, q_bin2, q_dv, q_do, q_tst, q_tst1, q_isN, q_isN0, q_isN1, q_isN2, q_isN3, q_isN4, q_isN5, q_and, q_and1, q_and2, q_or, q_or1, q_or2, q_not, q_not1, q_yes, q_andV, q_andV1, q_andV2, q_orV, q_orV1, q_orV2, q_notV, q_notV1, q_ifE, q_ifE1, q_ifE2, q_nil, q_cons, q_cons1, q_cons2, q_tup, q_tup1, q_lst, q_lst1, q_cb, q_cb1, q_lenV, q_lenV1, q_seq, q_seq1, q_sl, q_st, q_so, q_sb, q_sf, q_mu, q_mu1, q_mu2, q_muS, q_muS1, q_muS2, q_app, q_app1, q_app2, q_pop, q_pop1, q_rev, q_rev1, q_isi, q_isi1, q_inV, q_inV1, q_ixV, q_ixV1, q_ixV2, q_ixV3, q_ixL, q_ixT, q_kV, q_fI, q_addI, q_eqI, q_eqS, q_eqB, q_int, q_tupL, q_tupT, q_listL, q_listT, q_len1, q_len2, q_neg, q_neg1, q_call, q_call2, q_call3, q_call4, q_cnil, q_ccons, q_ccons1, q_ccons2, q_cb', q_cb'1, q_ar0, q_ar1, q_ar2, q_ar3, q_ar4, q_ar5, q_put0, q_put1, q_put2, q_put3, q_put4, q_put5, q_bix0, q_bix1, q_bix2, q_sq, q_sq1, q_sq2, q_sq3, q_sq4, q_snil, q_ret, q_ret1, q_expr, q_expr1, q_ifS, q_ifS1, q_ifS2, q_set, q_set1, q_asg, q_asg1, q_gname, q_gnil, q_gcons, q_gcons1, q_par, q_par1, q_aug, q_aug1, q_aug2, q_rng, q_iseq, q_iseq1, q_sd1, q_sd2, q_kP2, q_fro, q_fro1, q_for, q_for1, q_k0, q_k1, q_w0, q_w1, q_lc, q_lc2, q_n1, q_n0, q_run, bO_b, bO_v, bO_n, finB0, finB1, q_at0, q_at1, q_at2, q_at3, q_bs, q_bn, q_ms, q_mn, q_g0, q_gs, q_s0, q_ss, List.head?_cons, List.tail_cons, List.map_cons, List.map_nil, List.length_cons, List.length_nil, List.cons_append, List.nil_append, List.replicate_succ, List.replicate_zero, Nat.reduceSub, Nat.reduceAdd, Bool.false_xor, Bool.true_xor, Bool.not_true, Bool.not_false, beq_self_eq_true, isBool, isInt, isStr, isTuple, q_callI, if_true, ite_true, List.nodup_nil, List.nodup_cons, List.not_mem_nil, not_false_eq_true, and_true, true_and, and_self, q_fg0, q_fg1, q_fg2, q_fg3, q_fg4, q_fg5, q_fg6, q_lg0, q_lg1, q_lg2, q_lg3, q_lg4, q_lg5, q_sub, q_sub1, q_sub2, q_sub3, q_sub4, q_sub5, q_rng2, q_rng2a, q_aS, q_aS1, q_aS2, q_aS3, q_aS4, q_aS5, q_aS5', q_aS7, hb2, hax, encB, goes_eq, ← hwx, H1, e1]
      rw [wh_step ht hw3]
      exact h1
    · have e : at_ = found.length := by have := F.le; omega
      subst e
      refine ⟨found, ?_, F⟩
      have ht : t_found_from_2 (envD p found found.length none) = some (false, envD p found found.length none) := by
        unfold t_found_from_2 envD
        simp only [q_var, q_var1, q_var2, q_mv, q_mv1, q_mv2, q_c, q_pr, q_bin, q_bin1, q_bin2, q_dv, q_do, q_tst, q_tst1, q_isN, q_isN0, q_isN1, q_isN2, q_isN3, q_isN4, q_isN5, q_and, q_and1, q_and2, q_or, q_or1, q_or2, q_not, q_not1, q_yes, q_andV, q_andV1, q_andV2, q_orV, q_orV1, q_orV2, q_notV, q_notV1, q_ifE, q_ifE1, q_ifE2, q_nil, q_cons, q_cons1, q_cons2, q_tup, q_tup1, q_lst, q_lst1, q_cb, q_cb1, q_lenV, q_lenV1, q_seq, q_seq1, q_sl, q_st, q_so, q_sb, q_sf, q_mu, q_mu1, q_mu2, q_muS, q_muS1, q_muS2, q_app, q_app1, q_app2, q_pop, q_pop1, q_rev, q_rev1, q_isi, q_isi1, q_inV, q_inV1, q_ixV, q_ixV1, q_ixV2, q_ixV3, q_ixL, q_ixT, q_kV, q_fI, q_addI, q_eqI, q_eqS, q_eqB, q_int, q_tupL, q_tupT, q_listL, q_listT, q_len1, q_len2, q_neg, q_neg1, q_call, q_call2, q_call3, q_call4, q_cnil, q_ccons, q_ccons1, q_ccons2, q_cb', q_cb'1, q_ar0, q_ar1, q_ar2, q_ar3, q_ar4, q_ar5, q_put0, q_put1, q_put2, q_put3, q_put4, q_put5, q_bix0, q_bix1, q_bix2, q_sq, q_sq1, q_sq2, q_sq3, q_sq4, q_snil, q_ret, q_ret1, q_expr, q_expr1, q_ifS, q_ifS1, q_ifS2, q_set, q_set1, q_asg, q_asg1, q_gname, q_gnil, q_gcons, q_gcons1, q_par, q_par1, q_aug, q_aug1, q_aug2, q_rng, q_iseq, q_iseq1, q_sd1, q_sd2, q_kP2, q_fro, q_fro1, q_for, q_for1, q_k0, q_k1, q_w0, q_w1, q_lc, q_lc2, q_n1, q_n0, q_run, bO_b, bO_v, bO_n, finB0, finB1, q_at0, q_at1, q_at2, q_at3, q_bs, q_bn, q_ms, q_mn, q_g0, q_gs, q_s0, q_ss, List.head?_cons, List.tail_cons, List.map_cons, List.map_nil, List.length_cons, List.length_nil, List.cons_append, List.nil_append, List.replicate_succ, List.replicate_zero, Nat.reduceSub, Nat.reduceAdd, Bool.false_xor, Bool.true_xor, Bool.not_true, Bool.not_false, beq_self_eq_true, isBool, isInt, isStr, isTuple, q_callI, if_true, ite_true, List.nodup_nil, List.nodup_cons, List.not_mem_nil, not_false_eq_true, and_true, true_and, and_self, q_fg0, q_fg1, q_fg2, q_fg3, q_fg4, q_fg5, q_fg6, q_lg0, q_lg1, q_lg2, q_lg3, q_lg4, q_lg5, q_sub, q_sub1, q_sub2, q_sub3, q_sub4, q_sub5, q_rng2, q_rng2a, q_aS, q_aS1, q_aS2, q_aS3, q_aS4, q_aS5, q_aS5', q_aS7, encN_len, Int.lt_irrefl, decide_false]
      rw [wh_end ht]
      rfl
theorem found_eq (p : Pg) (wf : p.Wf) : ∃ found, f_found_from [.val p.enc, .val (.int 0)] = some (.val (.tuple (encN found)), [none, none]) ∧ Fd p found found.length := by
  have hn := wf.small
  have F0 : Fd p [0] 0 := by
    refine ⟨by simp, by simp, fun b hb => ?_, by simp, fun i b w hi => absurd hi (by omega)⟩
    have e : b = 0 := by simpa using hb
    rw [e]
    exact wf.pos
  obtain ⟨found, h1, h2⟩ := ff_go p wf p.n 0 [0] 100000 F0 (by omega) (by omega)
  refine ⟨found, ?_, h2⟩
  unfold f_found_from b_found_from
  unfold envD at h1
  have e : rsWh 100000 t_found_from_2 w_found_from_3 [4] [some (.val p.enc), some (.val (.int 0)), some (.own [PyData.int 0]), some (.val (.int 0)), none] = some (.nx [some (.val p.enc), some (.val (.int 0)), some (.own (encN found)), some (.val (.int ((found.length : Nat) : Int))), none]) := h1
  simp only [q_var, q_var1, q_var2, q_mv, q_mv1, q_mv2, q_c, q_pr, q_bin, q_bin1, q_bin2, q_dv, q_do, q_tst, q_tst1, q_isN, q_isN0, q_isN1, q_isN2, q_isN3, q_isN4, q_isN5, q_and, q_and1, q_and2, q_or, q_or1, q_or2, q_not, q_not1, q_yes, q_andV, q_andV1, q_andV2, q_orV, q_orV1, q_orV2, q_notV, q_notV1, q_ifE, q_ifE1, q_ifE2, q_nil, q_cons, q_cons1, q_cons2, q_tup, q_tup1, q_lst, q_lst1, q_cb, q_cb1, q_lenV, q_lenV1, q_seq, q_seq1, q_sl, q_st, q_so, q_sb, q_sf, q_mu, q_mu1, q_mu2, q_muS, q_muS1, q_muS2, q_app, q_app1, q_app2, q_pop, q_pop1, q_rev, q_rev1, q_isi, q_isi1, q_inV, q_inV1, q_ixV, q_ixV1, q_ixV2, q_ixV3, q_ixL, q_ixT, q_kV, q_fI, q_addI, q_eqI, q_eqS, q_eqB, q_int, q_tupL, q_tupT, q_listL, q_listT, q_len1, q_len2, q_neg, q_neg1, q_call, q_call2, q_call3, q_call4, q_cnil, q_ccons, q_ccons1, q_ccons2, q_cb', q_cb'1, q_ar0, q_ar1, q_ar2, q_ar3, q_ar4, q_ar5, q_put0, q_put1, q_put2, q_put3, q_put4, q_put5, q_bix0, q_bix1, q_bix2, q_sq, q_sq1, q_sq2, q_sq3, q_sq4, q_snil, q_ret, q_ret1, q_expr, q_expr1, q_ifS, q_ifS1, q_ifS2, q_set, q_set1, q_asg, q_asg1, q_gname, q_gnil, q_gcons, q_gcons1, q_par, q_par1, q_aug, q_aug1, q_aug2, q_rng, q_iseq, q_iseq1, q_sd1, q_sd2, q_kP2, q_fro, q_fro1, q_for, q_for1, q_k0, q_k1, q_w0, q_w1, q_lc, q_lc2, q_n1, q_n0, q_run, bO_b, bO_v, bO_n, finB0, finB1, q_at0, q_at1, q_at2, q_at3, q_bs, q_bn, q_ms, q_mn, q_g0, q_gs, q_s0, q_ss, List.head?_cons, List.tail_cons, List.map_cons, List.map_nil, List.length_cons, List.length_nil, List.cons_append, List.nil_append, List.replicate_succ, List.replicate_zero, Nat.reduceSub, Nat.reduceAdd, Bool.false_xor, Bool.true_xor, Bool.not_true, Bool.not_false, beq_self_eq_true, isBool, isInt, isStr, isTuple, q_callI, if_true, ite_true, List.nodup_nil, List.nodup_cons, List.not_mem_nil, not_false_eq_true, and_true, true_and, and_self, q_fg0, q_fg1, q_fg2, q_fg3, q_fg4, q_fg5, q_fg6, q_lg0, q_lg1, q_lg2, q_lg3, q_lg4, q_lg5, q_sub, q_sub1, q_sub2, q_sub3, q_sub4, q_sub5, q_rng2, q_rng2a, q_aS, q_aS1, q_aS2, q_aS3, q_aS4, q_aS5, q_aS5', q_aS7, e]

theorem srt_nat (l : List Nat) : ∃ l' : List Nat, srt (l.map fun (n : Nat) => (n : Int)) = l'.map (fun (n : Nat) => (n : Int)) ∧ l'.Perm l := by
  have hp := srt_perm (l.map fun (n : Nat) => (n : Int))
  refine ⟨(srt (l.map fun (n : Nat) => (n : Int))).map Int.toNat, ?_, ?_⟩
  · rw [List.map_map]
    conv => lhs; rw [← List.map_id (srt _)]
    apply List.map_congr_left
    intro x hx
    obtain ⟨n, _, rfl⟩ := List.mem_map.mp (hp.mem_iff.mp hx)
    simp
  · have := hp.map Int.toNat
    rw [List.map_map] at this
    have e : (Int.toNat ∘ fun (n : Nat) => (n : Int)) = id := by
      funext n
      simp
    rw [e, List.map_id] at this
    exact this
/-- what is known of the blocks that are told as come to -/
structure Rc (p : Pg) (bl : List Nat) : Prop where
  zero : 0 ∈ bl
  nd : bl.Nodup
  lt : ∀ b ∈ bl, b < p.n
  cl : ∀ b w, b ∈ bl → w ∈ p.W b → w ∈ bl
theorem encN_ints (l : List Nat) : encN l = (l.map fun (n : Nat) => (n : Int)).map PyData.int := by
  unfold encN
  rw [List.map_map]
  rfl
theorem reached_eq (p : Pg) (wf : p.Wf) : ∃ bl, f_reached [.val p.enc] = some (.val (.tuple (encN bl)), [none]) ∧ Rc p bl := by
  obtain ⟨found, h1, F⟩ := found_eq p wf
  obtain ⟨bl, h2, h3⟩ := srt_nat found
  refine ⟨bl, ?_, h3.mem_iff.mpr F.zero, h3.nodup_iff.mpr F.nd, fun b hb => F.lt b (h3.mem_iff.mp hb), fun b w hb hw => ?_⟩
  · unfold f_reached b_reached
    have hs : fSorted [.tuple (encN found)] = some (.own (encN bl)) := by
      show (intsOf (encN found)).map (fun ns => S.own ((srt ns).map PyData.int)) = _
      rw [encN_ints, intsOf_ints, encN_ints bl, ← h2]
      rfl
    simp only [q_var, q_var1, q_var2, q_mv, q_mv1, q_mv2, q_c, q_pr, q_bin, q_bin1, q_bin2, q_dv, q_do, q_tst, q_tst1, q_isN, q_isN0, q_isN1, q_isN2, q_isN3, q_isN4, q_isN5, q_and, q_and1, q_and2, q_or, q_or1, q_or2, q_not, q_not1, q_yes, q_andV, q_andV1, q_andV2, q_orV, q_orV1, q_orV2, q_notV, q_notV1, q_ifE, q_ifE1, q_ifE2, q_nil, q_cons, q_cons1, q_cons2, q_tup, q_tup1, q_lst, q_lst1, q_cb, q_cb1, q_lenV, q_lenV1, q_seq, q_seq1, q_sl, q_st, q_so, q_sb, q_sf, q_mu, q_mu1, q_mu2, q_muS, q_muS1, q_muS2, q_app, q_app1, q_app2, q_pop, q_pop1, q_rev, q_rev1, q_isi, q_isi1, q_inV, q_inV1, q_ixV, q_ixV1, q_ixV2, q_ixV3, q_ixL, q_ixT, q_kV, q_fI, q_addI, q_eqI, q_eqS, q_eqB, q_int, q_tupL, q_tupT, q_listL, q_listT, q_len1, q_len2, q_neg, q_neg1, q_call, q_call2, q_call3, q_call4, q_cnil, q_ccons, q_ccons1, q_ccons2, q_cb', q_cb'1, q_ar0, q_ar1, q_ar2, q_ar3, q_ar4, q_ar5, q_put0, q_put1, q_put2, q_put3, q_put4, q_put5, q_bix0, q_bix1, q_bix2, q_sq, q_sq1, q_sq2, q_sq3, q_sq4, q_snil, q_ret, q_ret1, q_expr, q_expr1, q_ifS, q_ifS1, q_ifS2, q_set, q_set1, q_asg, q_asg1, q_gname, q_gnil, q_gcons, q_gcons1, q_par, q_par1, q_aug, q_aug1, q_aug2, q_rng, q_iseq, q_iseq1, q_sd1, q_sd2, q_kP2, q_fro, q_fro1, q_for, q_for1, q_k0, q_k1, q_w0, q_w1, q_lc, q_lc2, q_n1, q_n0, q_run, bO_b, bO_v, bO_n, finB0, finB1, q_at0, q_at1, q_at2, q_at3, q_bs, q_bn, q_ms, q_mn, q_g0, q_gs, q_s0, q_ss, List.head?_cons, List.tail_cons, List.map_cons, List.map_nil, List.length_cons, List.length_nil, List.cons_append, List.nil_append, List.replicate_succ, List.replicate_zero, Nat.reduceSub, Nat.reduceAdd, Bool.false_xor, Bool.true_xor, Bool.not_true, Bool.not_false, beq_self_eq_true, isBool, isInt, isStr, isTuple, q_callI, if_true, ite_true, List.nodup_nil, List.nodup_cons, List.not_mem_nil, not_false_eq_true, and_true, true_and, and_self, q_fg0, q_fg1, q_fg2, q_fg3, q_fg4, q_fg5, q_fg6, q_lg0, q_lg1, q_lg2, q_lg3, q_lg4, q_lg5, q_sub, q_sub1, q_sub2, q_sub3, q_sub4, q_sub5, q_rng2, q_rng2a, q_aS, q_aS1, q_aS2, q_aS3, q_aS4, q_aS5, q_aS5', q_aS7, h1, hs]
  · obtain ⟨i, hi, e⟩ := List.mem_iff_getElem.mp (h3.mem_iff.mp hb)
    exact h3.mem_iff.mpr (F.cl i b w hi (by rw [List.getElem?_eq_getElem hi, e]) hw)
def gstep (W : Nat → List Nat) (told : List (Option Nat)) (b : Nat) : List (Option Nat) := told.set b (gof W told b)
def grnd (W : Nat → List Nat) (bl : List Nat) (told : List (Option Nat)) : List (Option Nat) := bl.foldl (gstep W) told
def grt (W : Nat → List Nat) (n : Nat) (bl : List Nat) : List (Option Nat) := bl.foldl (fun t _ => grnd W bl t) (List.replicate n none)
def envG (p : Pg) (bl : List Nat) (told : List (Option Nat)) : En := [some (.val p.enc), some (.own (told.map encO)), some (.val (.tuple (encN bl))), none, none]
theorem gr1 (p : Pg) (wf : p.Wf) (bl : List Nat) (told : List (Option Nat)) (hl : told.length = p.n) (b : Nat) (hb : b < p.n) (x : Option S) :
    ∃ ρ1 ρ2, rgName 4 (.int (b : Int)) [some (.val p.enc), some (.own (told.map encO)), some (.val (.tuple (encN bl))), x, none] = some ρ1 ∧ w_greatest_steps_1 ρ1 = some (.nx ρ2) ∧ killE [4] ρ2 = [some (.val p.enc), some (.own ((gstep p.W told b).map encO)), some (.val (.tuple (encN bl))), x, none] := by
  refine ⟨_, [some (.val p.enc), some (.own ((gstep p.W told b).map encO)), some (.val (.tuple (encN bl))), x, some (.val (.int (b : Int)))], rfl, ?_, rfl⟩
  unfold w_greatest_steps_1 gstep
  have h := gof_eq p wf told hl b hb
  have hix : ixN (told.map encO).length (b : Int) = some b := ix_nat (by rw [List.length_map]; omega)
  simp only [q_var, q_var1, q_var2, q_mv, q_mv1, q_mv2, q_c, q_pr, q_bin, q_bin1, q_bin2, q_dv, q_do, q_tst, q_tst1, q_isN, q_isN0, q_isN1, q_isN2, q_isN3, q_isN4, q_isN5, q_and, q_and1, q_and2, q_or, q_or1, q_or2, q_not, q_not1, q_yes, q_andV, q_andV1, q_andV2, q_orV, q_orV1, q_orV2, q_notV, q_notV1, q_ifE, q_ifE1, q_ifE2, q_nil, q_cons, q_cons1, q_cons2, q_tup, q_tup1, q_lst, q_lst1, q_cb, q_cb1, q_lenV, q_lenV1, q_seq, q_seq1, q_sl, q_st, q_so, q_sb, q_sf, q_mu, q_mu1, q_mu2, q_muS, q_muS1, q_muS2, q_app, q_app1, q_app2, q_pop, q_pop1, q_rev, q_rev1, q_isi, q_isi1, q_inV, q_inV1, q_ixV, q_ixV1, q_ixV2, q_ixV3, q_ixL, q_ixT, q_kV, q_fI, q_addI, q_eqI, q_eqS, q_eqB, q_int, q_tupL, q_tupT, q_listL, q_listT, q_len1, q_len2, q_neg, q_neg1, q_call, q_call2, q_call3, q_call4, q_cnil, q_ccons, q_ccons1, q_ccons2, q_cb', q_cb'1, q_ar0, q_ar1, q_ar2, q_ar3, q_ar4, q_ar5, q_put0, q_put1, q_put2, q_put3, q_put4, q_put5, q_bix0, q_bix1, q_bix2, q_sq, q_sq1, q_sq2, q_sq3, q_sq4, q_snil, q_ret, q_ret1, q_expr, q_expr1, q_ifS, q_ifS1, q_ifS2, q_set, q_set1, q_asg, q_asg1, q_gname, q_gnil, q_gcons, q_gcons1, q_par, q_par1, q_aug, q_aug1, q_aug2, q_rng, q_iseq, q_iseq1, q_sd1, q_sd2, q_kP2, q_fro, q_fro1, q_for, q_for1, q_k0, q_k1, q_w0, q_w1, q_lc, q_lc2, q_n1, q_n0, q_run, bO_b, bO_v, bO_n, finB0, finB1, q_at0, q_at1, q_at2, q_at3, q_bs, q_bn, q_ms, q_mn, q_g0, q_gs, q_s0, q_ss, List.head?_cons, List.tail_cons, List.map_cons, List.map_nil, List.length_cons, List.length_nil, List.cons_append, List.nil_append, List.replicate_succ, List.replicate_zero, Nat.reduceSub, Nat.reduceAdd, Bool.false_xor, Bool.true_xor, Bool.not_true, Bool.not_false, beq_self_eq_true, isBool, isInt, isStr, isTuple, q_callI, if_true, ite_true, List.nodup_nil, List.nodup_cons, List.not_mem_nil, not_false_eq_true, and_true, true_and, and_self, q_fg0, q_fg1, q_fg2, q_fg3, q_fg4, q_fg5, q_fg6, q_lg0, q_lg1, q_lg2, q_lg3, q_lg4, q_lg5, q_sub, q_sub1, q_sub2, q_sub3, q_sub4, q_sub5, q_rng2, q_rng2a, q_aS, q_aS1, q_aS2, q_aS3, q_aS4, q_aS5, q_aS5', q_aS7, h, hix, List.map_set]
theorem gr2 (p : Pg) (wf : p.Wf) (bl : List Nat) (R : Rc p bl) (told : List (Option Nat)) (hl : told.length = p.n) (b : Nat) :
    (grnd p.W bl told).length = p.n ∧ ∃ ρ1 ρ2, rgName 3 (.int (b : Int)) (envG p bl told) = some ρ1 ∧ w_greatest_steps_2 ρ1 = some (.nx ρ2) ∧ killE [3, 4] ρ2 = envG p bl (grnd p.W bl told) := by
  have H := for_fold (g := rgName 4) (b := w_greatest_steps_1) (ks := [4]) (fun (n : Nat) => PyData.int (n : Int)) (fun t => [some (.val p.enc), some (.own (t.map encO)), some (.val (.tuple (encN bl))), some (.val (.int (b : Int))), none]) (gstep p.W) (fun t => t.length = p.n) (fun w => w < p.n) bl told hl R.lt
    fun x a hx ha => ⟨by unfold gstep; rw [List.length_set]; exact hx, gr1 p wf bl x hx a ha _⟩
  have H1 : forGo (rgName 4) w_greatest_steps_1 [4] (encN bl) _ = _ := H.1
  refine ⟨H.2, _, [some (.val p.enc), some (.own ((grnd p.W bl told).map encO)), some (.val (.tuple (encN bl))), some (.val (.int (b : Int))), none], rfl, ?_, rfl⟩
  unfold w_greatest_steps_2 envG
  simp only [q_var, q_var1, q_var2, q_mv, q_mv1, q_mv2, q_c, q_pr, q_bin, q_bin1, q_bin2, q_dv, q_do, q_tst, q_tst1, q_isN, q_isN0, q_isN1, q_isN2, q_isN3, q_isN4, q_isN5, q_and, q_and1, q_and2, q_or, q_or1, q_or2, q_not, q_not1, q_yes, q_andV, q_andV1, q_andV2, q_orV, q_orV1, q_orV2, q_notV, q_notV1, q_ifE, q_ifE1, q_ifE2, q_nil, q_cons, q_cons1, q_cons2, q_tup, q_tup1, q_lst, q_lst1, q_cb, q_cb1, q_lenV, q_lenV1, q_seq, q_seq1, q_sl, q_st, q_so, q_sb, q_sf, q_mu, q_mu1, q_mu2, q_muS, q_muS1, q_muS2, q_app, q_app1, q_app2, q_pop, q_pop1, q_rev, q_rev1, q_isi, q_isi1, q_inV, q_inV1, q_ixV, q_ixV1, q_ixV2, q_ixV3, q_ixL, q_ixT, q_kV, q_fI, q_addI, q_eqI, q_eqS, q_eqB, q_int, q_tupL, q_tupT, q_listL, q_listT, q_len1, q_len2, q_neg, q_neg1, q_call, q_call2, q_call3, q_call4, q_cnil, q_ccons, q_ccons1, q_ccons2, q_cb', q_cb'1, q_ar0, q_ar1, q_ar2, q_ar3, q_ar4, q_ar5, q_put0, q_put1, q_put2, q_put3, q_put4, q_put5, q_bix0, q_bix1, q_bix2, q_sq, q_sq1, q_sq2, q_sq3, q_sq4, q_snil, q_ret, q_ret1, q_expr, q_expr1, q_ifS, q_ifS1, q_ifS2, q_set, q_set1, q_asg, q_asg1, q_gname, q_gnil, q_gcons, q_gcons1, q_par, q_par1, q_aug, q_aug1, q_aug2, q_rng, q_iseq, q_iseq1, q_sd1, q_sd2, q_kP2, q_fro, q_fro1, q_for, q_for1, q_k0, q_k1, q_w0, q_w1, q_lc, q_lc2, q_n1, q_n0, q_run, bO_b, bO_v, bO_n, finB0, finB1, q_at0, q_at1, q_at2, q_at3, q_bs, q_bn, q_ms, q_mn, q_g0, q_gs, q_s0, q_ss, List.head?_cons, List.tail_cons, List.map_cons, List.map_nil, List.length_cons, List.length_nil, List.cons_append, List.nil_append, List.replicate_succ, List.replicate_zero, Nat.reduceSub, Nat.reduceAdd, Bool.false_xor, Bool.true_xor, Bool.not_true, Bool.not_false, beq_self_eq_true, isBool, isInt, isStr, isTuple, q_callI, if_true, ite_true, List.nodup_nil, List.nodup_cons, List.not_mem_nil, not_false_eq_true, and_true, true_and, and_self, q_fg0, q_fg1, q_fg2, q_fg3, q_fg4, q_fg5, q_fg6, q_lg0, q_lg1, q_lg2, q_lg3, q_lg4, q_lg5, q_sub, q_sub1, q_sub2, q_sub3, q_sub4, q_sub5, q_rng2, q_rng2a, q_aS, q_aS1, q_aS2, q_aS3, q_aS4, q_aS5, q_aS5', q_aS7, H1, grnd]
theorem greatest_eq (p : Pg) (wf : p.Wf) : ∃ bl, Rc p bl ∧ ∀ x, (grt p.W p.n bl)[0]? = some x → f_greatest_steps [.val p.enc] = some (.val (encO x), [none]) := by
  have hn := wf.small
  obtain ⟨bl, hb, R⟩ := reached_eq p wf
  refine ⟨bl, R, fun x hx => ?_⟩
  have H := for_fold (g := rgName 3) (b := w_greatest_steps_2) (ks := [3, 4]) (fun (n : Nat) => PyData.int (n : Int)) (envG p bl) (fun t _ => grnd p.W bl t) (fun t => t.length = p.n) (fun _ => True) bl
    (List.replicate p.n none) (by simp) (fun _ _ => trivial) fun x a hx _ => gr2 p wf bl R x hx a
  have H1 : forGo (rgName 3) w_greatest_steps_2 [3, 4] (encN bl) _ = some (.nx (envG p bl (grt p.W p.n bl))) := H.1
  unfold f_greatest_steps b_greatest_steps
  have e1 : ((p.bs.map encB).length : Int) = (p.n : Int) := by rw [len_enc]
  have hrep := q_rep (d := PyData.none) (k := p.n) (by omega) (by rw [Nat.one_mul]; exact sz_le (by omega))
  have e3 : (List.replicate p.n PyData.none) = (List.replicate p.n none).map encO := by rw [List.map_replicate]; rfl
  have h0 : atI ((grt p.W p.n bl).map encO) 0 = some (encO x) := at_map (k := 0) hx
  unfold envG at H1
  unfold Pg.enc at H1 hb ⊢
  simp only [q_var, q_var1, q_var2, q_mv, q_mv1, q_mv2, q_c, q_pr, q_bin, q_bin1, q_bin2, q_dv, q_do, q_tst, q_tst1, q_isN, q_isN0, q_isN1, q_isN2, q_isN3, q_isN4, q_isN5, q_and, q_and1, q_and2, q_or, q_or1, q_or2, q_not, q_not1, q_yes, q_andV, q_andV1, q_andV2, q_orV, q_orV1, q_orV2, q_notV, q_notV1, q_ifE, q_ifE1, q_ifE2, q_nil, q_cons, q_cons1, q_cons2, q_tup, q_tup1, q_lst, q_lst1, q_cb, q_cb1, q_lenV, q_lenV1, q_seq, q_seq1, q_sl, q_st, q_so, q_sb, q_sf, q_mu, q_mu1, q_mu2, q_muS, q_muS1, q_muS2, q_app, q_app1, q_app2, q_pop, q_pop1, q_rev, q_rev1, q_isi, q_isi1, q_inV, q_inV1, q_ixV, q_ixV1, q_ixV2, q_ixV3, q_ixL, q_ixT, q_kV, q_fI, q_addI, q_eqI, q_eqS, q_eqB, q_int, q_tupL, q_tupT, q_listL, q_listT, q_len1, q_len2, q_neg, q_neg1, q_call, q_call2, q_call3, q_call4, q_cnil, q_ccons, q_ccons1, q_ccons2, q_cb', q_cb'1, q_ar0, q_ar1, q_ar2, q_ar3, q_ar4, q_ar5, q_put0, q_put1, q_put2, q_put3, q_put4, q_put5, q_bix0, q_bix1, q_bix2, q_sq, q_sq1, q_sq2, q_sq3, q_sq4, q_snil, q_ret, q_ret1, q_expr, q_expr1, q_ifS, q_ifS1, q_ifS2, q_set, q_set1, q_asg, q_asg1, q_gname, q_gnil, q_gcons, q_gcons1, q_par, q_par1, q_aug, q_aug1, q_aug2, q_rng, q_iseq, q_iseq1, q_sd1, q_sd2, q_kP2, q_fro, q_fro1, q_for, q_for1, q_k0, q_k1, q_w0, q_w1, q_lc, q_lc2, q_n1, q_n0, q_run, bO_b, bO_v, bO_n, finB0, finB1, q_at0, q_at1, q_at2, q_at3, q_bs, q_bn, q_ms, q_mn, q_g0, q_gs, q_s0, q_ss, List.head?_cons, List.tail_cons, List.map_cons, List.map_nil, List.length_cons, List.length_nil, List.cons_append, List.nil_append, List.replicate_succ, List.replicate_zero, Nat.reduceSub, Nat.reduceAdd, Bool.false_xor, Bool.true_xor, Bool.not_true, Bool.not_false, beq_self_eq_true, isBool, isInt, isStr, isTuple, q_callI, if_true, ite_true, List.nodup_nil, List.nodup_cons, List.not_mem_nil, not_false_eq_true, and_true, true_and, and_self, q_fg0, q_fg1, q_fg2, q_fg3, q_fg4, q_fg5, q_fg6, q_lg0, q_lg1, q_lg2, q_lg3, q_lg4, q_lg5, q_sub, q_sub1, q_sub2, q_sub3, q_sub4, q_sub5, q_rng2, q_rng2a, q_aS, q_aS1, q_aS2, q_aS3, q_aS4, q_aS5, q_aS5', q_aS7, e1, hrep, e3, hb, H1, h0]
end K50

set_option Elab.async false
set_option linter.all false
set_option maxRecDepth 100000
set_option maxHeartbeats 4000000
namespace K50
open PySem L2 DL
/-! ### counts -/
def addAt (c : Nat) (l : List Nat) (w : Nat) : List Nat := l.set w (l.getD w 0 + c)
def cb1 (W : Nat → List Nat) (cs : List Nat) (s : List Nat × Nat) (b : Nat) : List Nat × Nat := ((W b).foldl (addAt (cs.getD b 0)) s.1, s.2 + if (W b).isEmpty then cs.getD b 0 else 0)
def cb (W : Nat → List Nat) (n : Nat) (cs : List Nat) : List Nat × Nat := (List.range n).foldl (cb1 W cs) (List.replicate n 0, 0)
theorem at_encN {l : List Nat} {k : Nat} (h : k < l.length) : atI (encN l) (k : Int) = some (.int ((l.getD k 0 : Nat) : Int)) := by
  refine at_map (f := fun (n : Nat) => PyData.int (n : Int)) ?_
  rw [List.getD_eq_getElem?_getD, List.getElem?_eq_getElem h]
  rfl
theorem encN_set (l : List Nat) (k x : Nat) : encN (l.set k x) = (encN l).set k (.int (x : Int)) := List.map_set
theorem addAt_len {c w : Nat} {l : List Nat} : (addAt c l w).length = l.length := by simp [addAt]
theorem addAll_len {c : Nat} {ws : List Nat} : ∀ {l : List Nat}, (ws.foldl (addAt c) l).length = l.length := by
  induction ws with
  | nil => intro l; rfl
  | cons w ws ih => intro l; rw [List.foldl_cons, ih, addAt_len]
def envC (p : Pg) (cs : List Nat) (s : List Nat × Nat) : En := [some (.val p.enc), some (.val (.list (encN cs))), some (.own (encN s.1)), some (.val (.int (s.2 : Int))), none, none, none]
theorem cb_in (p : Pg) (cs l : List Nat) (b : Nat) (hb : b < cs.length) (w : Nat) (hw : w < l.length) (x z : Option S) :
    ∃ ρ1 ρ2, rgName 6 (.int (w : Int)) [some (.val p.enc), some (.val (.list (encN cs))), some (.own (encN l)), x, some (.val (.int (b : Int))), z, none] = some ρ1 ∧ w_counts_behind_1 ρ1 = some (.nx ρ2) ∧
      killE [6] ρ2 = [some (.val p.enc), some (.val (.list (encN cs))), some (.own (encN (addAt (cs.getD b 0) l w))), x, some (.val (.int (b : Int))), z, none] := by
  refine ⟨_, [some (.val p.enc), some (.val (.list (encN cs))), some (.own (encN (addAt (cs.getD b 0) l w))), x, some (.val (.int (b : Int))), z, some (.val (.int (w : Int)))], rfl, ?_, rfl⟩
  have h1 := at_encN hb
  have h2 := at_encN hw
  have h3 : ixN (encN l).length (w : Int) = some w := ix_nat (by rw [encN_len]; exact hw)
  unfold w_counts_behind_1
  have e : (((l.getD w 0 : Nat) : Int) + ((cs.getD b 0 : Nat) : Int)) = ((l.getD w 0 + cs.getD b 0 : Nat) : Int) := by omega
  unfold addAt
  rw [encN_set]
  simp only [q_var, q_var1, q_var2, q_mv, q_mv1, q_mv2, q_c, q_pr, q_bin, q_bin1, q_bin2, q_dv, q_do, q_tst, q_tst1, q_isN, q_isN0, q_isN1, q_isN2, q_isN3, q_isN4, q_isN5, q_and, q_and1, q_and2, q_or, q_or1, q_or2, q_not, q_not1, q_yes, q_andV, q_andV1, q_andV2, q_orV, q_orV1, q_orV2, q_notV, q_notV1, q_ifE, q_ifE1, q_ifE2, q_nil, q_cons, q_cons1, q_cons2, q_tup, q_tup1, q_lst, q_lst1, q_cb, q_cb1, q_lenV, q_lenV1, q_seq, q_seq1, q_sl, q_st, q_so, q_sb, q_sf, q_mu, q_mu1, q_mu2, q_muS, q_muS1, q_muS2, q_app, q_app1, q_app2, q_pop, q_pop1, q_rev, q_rev1, q_isi, q_isi1, q_inV, q_inV1, q_ixV, q_ixV1, q_ixV2, q_ixV3, q_ixL, q_ixT, q_kV, q_fI, q_addI, q_eqI, q_eqS, q_eqB, q_int, q_tupL, q_tupT, q_listL, q_listT, q_len1, q_len2, q_neg, q_neg1, q_call, q_call2, q_call3, q_call4, q_cnil, q_ccons, q_ccons1, q_ccons2, q_cb', q_cb'1, q_ar0, q_ar1, q_ar2, q_ar3, q_ar4, q_ar5, q_put0, q_put1, q_put2, q_put3, q_put4, q_put5, q_bix0, q_bix1, q_bix2, q_sq, q_sq1, q_sq2, q_sq3, q_sq4, q_snil, q_ret, q_ret1, q_expr, q_expr1, q_ifS, q_ifS1, q_ifS2, q_set, q_set1, q_asg, q_asg1, q_gname, q_gnil, q_gcons, q_gcons1, q_par, q_par1, q_aug, q_aug1, q_aug2, q_rng, q_iseq, q_iseq1, q_sd1, q_sd2, q_kP2, q_fro, q_fro1, q_for, q_for1, q_k0, q_k1, q_w0, q_w1, q_lc, q_lc2, q_n1, q_n0, q_run, bO_b, bO_v, bO_n, finB0, finB1, q_at0, q_at1, q_at2, q_at3, q_bs, q_bn, q_ms, q_mn, q_g0, q_gs, q_s0, q_ss, List.head?_cons, List.tail_cons, List.map_cons, List.map_nil, List.length_cons, List.length_nil, List.cons_append, List.nil_append, List.replicate_succ, List.replicate_zero, Nat.reduceSub, Nat.reduceAdd, Bool.false_xor, Bool.true_xor, Bool.not_true, Bool.not_false, beq_self_eq_true, isBool, isInt, isStr, isTuple, q_callI, if_true, ite_true, List.nodup_nil, List.nodup_cons, List.not_mem_nil, not_false_eq_true, and_true, true_and, and_self, q_fg0, q_fg1, q_fg2, q_fg3, q_fg4, q_fg5, q_fg6, q_lg0, q_lg1, q_lg2, q_lg3, q_lg4, q_lg5, q_sub, q_sub1, q_sub2, q_sub3, q_sub4, q_sub5, q_rng2, q_rng2a, q_aS, q_aS1, q_aS2, q_aS3, q_aS4, q_aS5, q_aS5', q_aS7, h1, h2, h3, e]
theorem cb_step (p : Pg) (wf : p.Wf) (cs : List Nat) (hc : cs.length = p.n) (s : List Nat × Nat) (hl : s.1.length = p.n) (b : Nat) (hb : b < p.n) :
    (cb1 p.W cs s b).1.length = p.n ∧ ∃ ρ1 ρ2, rgName 4 (.int (b : Int)) (envC p cs s) = some ρ1 ∧ w_counts_behind_2 ρ1 = some (.nx ρ2) ∧ killE [4, 5, 6] ρ2 = envC p cs (cb1 p.W cs s b) := by
  have H := for_fold (g := rgName 6) (b := w_counts_behind_1) (ks := [6]) (fun (n : Nat) => PyData.int (n : Int)) (fun l => [some (.val p.enc), some (.val (.list (encN cs))), some (.own (encN l)), some (.val (.int (s.2 : Int))), some (.val (.int (b : Int))), some (.val (.tuple (encN (p.W b)))), none])
    (addAt (cs.getD b 0)) (fun l => l.length = p.n) (fun w => w < p.n) (p.W b) s.1 hl (wf.go b) fun x a hx ha => ⟨by rw [addAt_len]; exact hx, cb_in p cs x b (by omega) a (by omega) _ _⟩
  have H1 : forGo (rgName 6) w_counts_behind_1 [6] (encN (p.W b)) _ = _ := H.1
  refine ⟨H.2, _, [some (.val p.enc), some (.val (.list (encN cs))), some (.own (encN (cb1 p.W cs s b).1)), some (.val (.int ((cb1 p.W cs s b).2 : Int))), some (.val (.int (b : Int))), some (.val (.tuple (encN (p.W b)))), none], rfl, ?_, rfl⟩
  unfold w_counts_behind_2 envC
  have h1 := at_encN (l := cs) (k := b) (by omega)
  cases h : (p.W b).isEmpty with
  | true =>
    have e1 : (cb1 p.W cs s b) = ((p.W b).foldl (addAt (cs.getD b 0)) s.1, s.2 + cs.getD b 0) := by
      unfold cb1
      rw [h]
      rfl
    have e2 : ((s.2 : Int) + ((cs.getD b 0 : Nat) : Int)) = ((s.2 + cs.getD b 0 : Nat) : Int) := by omega
    rw [e1]
    simp only [q_var, q_var1, q_var2, q_mv, q_mv1, q_mv2, q_c, q_pr, q_bin, q_bin1, q_bin2, q_dv, q_do, q_tst, q_tst1, q_isN, q_isN0, q_isN1, q_isN2, q_isN3, q_isN4, q_isN5, q_and, q_and1, q_and2, q_or, q_or1, q_or2, q_not, q_not1, q_yes, q_andV, q_andV1, q_andV2, q_orV, q_orV1, q_orV2, q_notV, q_notV1, q_ifE, q_ifE1, q_ifE2, q_nil, q_cons, q_cons1, q_cons2, q_tup, q_tup1, q_lst, q_lst1, q_cb, q_cb1, q_lenV, q_lenV1, q_seq, q_seq1, q_sl, q_st, q_so, q_sb, q_sf, q_mu, q_mu1, q_mu2, q_muS, q_muS1, q_muS2, q_app, q_app1, q_app2, q_pop, q_pop1, q_rev, q_rev1, q_isi, q_isi1, q_inV, q_inV1, q_ixV, q_ixV1, q_ixV2, q_ixV3, q_ixL, q_ixT, q_kV, q_fI, q_addI, q_eqI, q_eqS, q_eqB, q_int, q_tupL, q_tupT, q_listL, q_listT, q_len1, q_len2, q_neg, q_neg1, q_call, q_call2, q_call3, q_call4, q_cnil, q_ccons, q_ccons1, q_ccons2, q_cb', q_cb'1, q_ar0, q_ar1, q_ar2, q_ar3, q_ar4, q_ar5, q_put0, q_put1, q_put2, q_put3, q_put4, q_put5, q_bix0, q_bix1, q_bix2, q_sq, q_sq1, q_sq2, q_sq3, q_sq4, q_snil, q_ret, q_ret1, q_expr, q_expr1, q_ifS, q_ifS1, q_ifS2, q_set, q_set1, q_asg, q_asg1, q_gname, q_gnil, q_gcons, q_gcons1, q_par, q_par1, q_aug, q_aug1, q_aug2, q_rng, q_iseq, q_iseq1, q_sd1, q_sd2, q_kP2, q_fro, q_fro1, q_for, q_for1, q_k0, q_k1, q_w0, q_w1, q_lc, q_lc2, q_n1, q_n0, q_run, bO_b, bO_v, bO_n, finB0, finB1, q_at0, q_at1, q_at2, q_at3, q_bs, q_bn, q_ms, q_mn, q_g0, q_gs, q_s0, q_ss, List.head?_cons, List.tail_cons, List.map_cons, List.map_nil, List.length_cons, List.length_nil, List.cons_append, List.nil_append, List.replicate_succ, List.replicate_zero, Nat.reduceSub, Nat.reduceAdd, Bool.false_xor, Bool.true_xor, Bool.not_true, Bool.not_false, beq_self_eq_true, isBool, isInt, isStr, isTuple, q_callI, if_true, ite_true, List.nodup_nil, List.nodup_cons, List.not_mem_nil, not_false_eq_true, and_true, true_and, and_self, q_fg0, q_fg1, q_fg2, q_fg3, q_fg4, q_fg5, q_fg6, q_lg0, q_lg1, q_lg2, q_lg3, q_lg4, q_lg5, q_sub, q_sub1, q_sub2, q_sub3, q_sub4, q_sub5, q_rng2, q_rng2a, q_aS, q_aS1, q_aS2, q_aS3, q_aS4, q_aS5, q_aS5', q_aS7, behind_eq hb, H1, len0, h, h1, e2]
  | false =>
    have e1 : (cb1 p.W cs s b) = ((p.W b).foldl (addAt (cs.getD b 0)) s.1, s.2) := by
      unfold cb1
      rw [h]
      rfl
    have e2 : ((s.2 : Int) + 0) = (s.2 : Int) := by omega
    rw [e1]
    simp only [q_var, q_var1, q_var2, q_mv, q_mv1, q_mv2, q_c, q_pr, q_bin, q_bin1, q_bin2, q_dv, q_do, q_tst, q_tst1, q_isN, q_isN0, q_isN1, q_isN2, q_isN3, q_isN4, q_isN5, q_and, q_and1, q_and2, q_or, q_or1, q_or2, q_not, q_not1, q_yes, q_andV, q_andV1, q_andV2, q_orV, q_orV1, q_orV2, q_notV, q_notV1, q_ifE, q_ifE1, q_ifE2, q_nil, q_cons, q_cons1, q_cons2, q_tup, q_tup1, q_lst, q_lst1, q_cb, q_cb1, q_lenV, q_lenV1, q_seq, q_seq1, q_sl, q_st, q_so, q_sb, q_sf, q_mu, q_mu1, q_mu2, q_muS, q_muS1, q_muS2, q_app, q_app1, q_app2, q_pop, q_pop1, q_rev, q_rev1, q_isi, q_isi1, q_inV, q_inV1, q_ixV, q_ixV1, q_ixV2, q_ixV3, q_ixL, q_ixT, q_kV, q_fI, q_addI, q_eqI, q_eqS, q_eqB, q_int, q_tupL, q_tupT, q_listL, q_listT, q_len1, q_len2, q_neg, q_neg1, q_call, q_call2, q_call3, q_call4, q_cnil, q_ccons, q_ccons1, q_ccons2, q_cb', q_cb'1, q_ar0, q_ar1, q_ar2, q_ar3, q_ar4, q_ar5, q_put0, q_put1, q_put2, q_put3, q_put4, q_put5, q_bix0, q_bix1, q_bix2, q_sq, q_sq1, q_sq2, q_sq3, q_sq4, q_snil, q_ret, q_ret1, q_expr, q_expr1, q_ifS, q_ifS1, q_ifS2, q_set, q_set1, q_asg, q_asg1, q_gname, q_gnil, q_gcons, q_gcons1, q_par, q_par1, q_aug, q_aug1, q_aug2, q_rng, q_iseq, q_iseq1, q_sd1, q_sd2, q_kP2, q_fro, q_fro1, q_for, q_for1, q_k0, q_k1, q_w0, q_w1, q_lc, q_lc2, q_n1, q_n0, q_run, bO_b, bO_v, bO_n, finB0, finB1, q_at0, q_at1, q_at2, q_at3, q_bs, q_bn, q_ms, q_mn, q_g0, q_gs, q_s0, q_ss, List.head?_cons, List.tail_cons, List.map_cons, List.map_nil, List.length_cons, List.length_nil, List.cons_append, List.nil_append, List.replicate_succ, List.replicate_zero, Nat.reduceSub, Nat.reduceAdd, Bool.false_xor, Bool.true_xor, Bool.not_true, Bool.not_false, beq_self_eq_true, isBool, isInt, isStr, isTuple, q_callI, if_true, ite_true, List.nodup_nil, List.nodup_cons, List.not_mem_nil, not_false_eq_true, and_true, true_and, and_self, q_fg0, q_fg1, q_fg2, q_fg3, q_fg4, q_fg5, q_fg6, q_lg0, q_lg1, q_lg2, q_lg3, q_lg4, q_lg5, q_sub, q_sub1, q_sub2, q_sub3, q_sub4, q_sub5, q_rng2, q_rng2a, q_aS, q_aS1, q_aS2, q_aS3, q_aS4, q_aS5, q_aS5', q_aS7, behind_eq hb, H1, len0, h, h1, e2]
theorem cb_eq (p : Pg) (wf : p.Wf) (cs : List Nat) (hc : cs.length = p.n) : f_counts_behind [.val p.enc, .val (.list (encN cs))] = some (.val (.tuple [.list (encN (cb p.W p.n cs).1), .int ((cb p.W p.n cs).2 : Int)]), [none, none]) ∧ (cb p.W p.n cs).1.length = p.n := by
  have hn := wf.small
  have H := for_fold (g := rgName 4) (b := w_counts_behind_2) (ks := [4, 5, 6]) (fun (n : Nat) => PyData.int (n : Int)) (envC p cs) (cb1 p.W cs) (fun s => s.1.length = p.n) (fun b => b < p.n) (List.range p.n) (List.replicate p.n 0, 0) (by simp) (fun a h => List.mem_range.mp h)
    fun x a hx ha => cb_step p wf cs hc x hx a ha
  refine ⟨?_, H.2⟩
  have H1 := H.1
  rw [← rng0] at H1
  have hl2 : ((encN cs).length : Int) = (p.n : Int) := by rw [encN_len, hc]
  have hrep := q_rep (d := PyData.int 0) (k := p.n) (by omega) (by rw [Nat.one_mul]; exact sz_le (by omega))
  have e3 : (List.replicate p.n (PyData.int 0)) = encN (List.replicate p.n 0) := by unfold encN; rw [List.map_replicate]; rfl
  unfold f_counts_behind b_counts_behind
  unfold envC at H1
  simp only [show ((0 : Nat) : Int) = 0 from rfl] at H1
  simp only [q_var, q_var1, q_var2, q_mv, q_mv1, q_mv2, q_c, q_pr, q_bin, q_bin1, q_bin2, q_dv, q_do, q_tst, q_tst1, q_isN, q_isN0, q_isN1, q_isN2, q_isN3, q_isN4, q_isN5, q_and, q_and1, q_and2, q_or, q_or1, q_or2, q_not, q_not1, q_yes, q_andV, q_andV1, q_andV2, q_orV, q_orV1, q_orV2, q_notV, q_notV1, q_ifE, q_ifE1, q_ifE2, q_nil, q_cons, q_cons1, q_cons2, q_tup, q_tup1, q_lst, q_lst1, q_cb, q_cb1, q_lenV, q_lenV1, q_seq, q_seq1, q_sl, q_st, q_so, q_sb, q_sf, q_mu, q_mu1, q_mu2, q_muS, q_muS1, q_muS2, q_app, q_app1, q_app2, q_pop, q_pop1, q_rev, q_rev1, q_isi, q_isi1, q_inV, q_inV1, q_ixV, q_ixV1, q_ixV2, q_ixV3, q_ixL, q_ixT, q_kV, q_fI, q_addI, q_eqI, q_eqS, q_eqB, q_int, q_tupL, q_tupT, q_listL, q_listT, q_len1, q_len2, q_neg, q_neg1, q_call, q_call2, q_call3, q_call4, q_cnil, q_ccons, q_ccons1, q_ccons2, q_cb', q_cb'1, q_ar0, q_ar1, q_ar2, q_ar3, q_ar4, q_ar5, q_put0, q_put1, q_put2, q_put3, q_put4, q_put5, q_bix0, q_bix1, q_bix2, q_sq, q_sq1, q_sq2, q_sq3, q_sq4, q_snil, q_ret, q_ret1, q_expr, q_expr1, q_ifS, q_ifS1, q_ifS2, q_set, q_set1, q_asg, q_asg1, q_gname, q_gnil, q_gcons, q_gcons1, q_par, q_par1, q_aug, q_aug1, q_aug2, q_rng, q_iseq, q_iseq1, q_sd1, q_sd2, q_kP2, q_fro, q_fro1, q_for, q_for1, q_k0, q_k1, q_w0, q_w1, q_lc, q_lc2, q_n1, q_n0, q_run, bO_b, bO_v, bO_n, finB0, finB1, q_at0, q_at1, q_at2, q_at3, q_bs, q_bn, q_ms, q_mn, q_g0, q_gs, q_s0, q_ss, List.head?_cons, List.tail_cons, List.map_cons, List.map_nil, List.length_cons, List.length_nil, List.cons_append, List.nil_append, List.replicate_succ, List.replicate_zero, Nat.reduceSub, Nat.reduceAdd, Bool.false_xor, Bool.true_xor, Bool.not_true, Bool.not_false, beq_self_eq_true, isBool, isInt, isStr, isTuple, q_callI, if_true, ite_true, List.nodup_nil, List.nodup_cons, List.not_mem_nil, not_false_eq_true, and_true, true_and, and_self, q_fg0, q_fg1, q_fg2, q_fg3, q_fg4, q_fg5, q_fg6, q_lg0, q_lg1, q_lg2, q_lg3, q_lg4, q_lg5, q_sub, q_sub1, q_sub2, q_sub3, q_sub4, q_sub5, q_rng2, q_rng2a, q_aS, q_aS1, q_aS2, q_aS3, q_aS4, q_aS5, q_aS5', q_aS7, hl2, hrep, e3, q_rng1 (n62 (show p.n ≤ 1000 by omega)), Int.toNat_natCast, H1, cb]
def ca1 (W : Nat → List Nat) (n : Nat) (s : Bool × List Nat × Nat) (_ : Nat) : Bool × List Nat × Nat := (false, (cb W n s.2.1).1, s.2.2 + (cb W n s.2.1).2)
def ca (W : Nat → List Nat) (n k : Nat) : Bool × List Nat × Nat := (List.range k).foldl (ca1 W n) (true, (List.replicate n 0).set 0 1, 0)
def envA (p : Pg) (k : Nat) (s : Bool × List Nat × Nat) : En := [some (.val p.enc), some (.val (.int (k : Int))), some (if s.1 then .own (encN s.2.1) else .val (.list (encN s.2.1))), some (.val (.int (s.2.2 : Int))), none, none]
theorem ca_step (p : Pg) (wf : p.Wf) (k : Nat) (s : Bool × List Nat × Nat) (hl : s.2.1.length = p.n) (a : Nat) : (ca1 p.W p.n s a).2.1.length = p.n ∧ ∃ ρ1 ρ2, rgName 4 (.int (a : Int)) (envA p k s) = some ρ1 ∧ w_counts_after_1 ρ1 = some (.nx ρ2) ∧ killE [4, 5] ρ2 = envA p k (ca1 p.W p.n s a) := by
  obtain ⟨h1, h2⟩ := cb_eq p wf s.2.1 hl
  refine ⟨h2, _, [some (.val p.enc), some (.val (.int (k : Int))), some (.val (.list (encN (cb p.W p.n s.2.1).1))), some (.val (.int ((s.2.2 + (cb p.W p.n s.2.1).2 : Nat) : Int))), some (.val (.int (a : Int))), some (.val (.int ((cb p.W p.n s.2.1).2 : Int)))], rfl, ?_, rfl⟩
  obtain ⟨fl, c, e⟩ := s
  have e2 : ((e : Int) + ((cb p.W p.n c).2 : Int)) = ((e + (cb p.W p.n c).2 : Nat) : Int) := by omega
  have hg : ∀ {ρ : En} {r : List D → En → Option En}, rgTup 2 r (.tuple [.list (encN (cb p.W p.n c).1), .int ((cb p.W p.n c).2 : Int)]) ρ = r [.list (encN (cb p.W p.n c).1), .int ((cb p.W p.n c).2 : Int)] ρ := q_gtup rfl
  simp only at h1
  unfold w_counts_after_1 envA
  cases fl with
  | true => simp only [q_var, q_var1, q_var2, q_mv, q_mv1, q_mv2, q_c, q_pr, q_bin, q_bin1, q_bin2, q_dv, q_do, q_tst, q_tst1, q_isN, q_isN0, q_isN1, q_isN2, q_isN3, q_isN4, q_isN5, q_and, q_and1, q_and2, q_or, q_or1, q_or2, q_not, q_not1, q_yes, q_andV, q_andV1, q_andV2, q_orV, q_orV1, q_orV2, q_notV, q_notV1, q_ifE, q_ifE1, q_ifE2, q_nil, q_cons, q_cons1, q_cons2, q_tup, q_tup1, q_lst, q_lst1, q_cb, q_cb1, q_lenV, q_lenV1, q_seq, q_seq1, q_sl, q_st, q_so, q_sb, q_sf, q_mu, q_mu1, q_mu2, q_muS, q_muS1, q_muS2, q_app, q_app1, q_app2, q_pop, q_pop1, q_rev, q_rev1, q_isi, q_isi1, q_inV, q_inV1, q_ixV, q_ixV1, q_ixV2, q_ixV3, q_ixL, q_ixT, q_kV, q_fI, q_addI, q_eqI, q_eqS, q_eqB, q_int, q_tupL, q_tupT, q_listL, q_listT, q_len1, q_len2, q_neg, q_neg1, q_call, q_call2, q_call3, q_call4, q_cnil, q_ccons, q_ccons1, q_ccons2, q_cb', q_cb'1, q_ar0, q_ar1, q_ar2, q_ar3, q_ar4, q_ar5, q_put0, q_put1, q_put2, q_put3, q_put4, q_put5, q_bix0, q_bix1, q_bix2, q_sq, q_sq1, q_sq2, q_sq3, q_sq4, q_snil, q_ret, q_ret1, q_expr, q_expr1, q_ifS, q_ifS1, q_ifS2, q_set, q_set1, q_asg, q_asg1, q_gname, q_gnil, q_gcons, q_gcons1, q_par, q_par1, q_aug, q_aug1, q_aug2, q_rng, q_iseq, q_iseq1, q_sd1, q_sd2, q_kP2, q_fro, q_fro1, q_for, q_for1, q_k0, q_k1, q_w0, q_w1, q_lc, q_lc2, q_n1, q_n0, q_run, bO_b, bO_v, bO_n, finB0, finB1, q_at0, q_at1, q_at2, q_at3, q_bs, q_bn, q_ms, q_mn, q_g0, q_gs, q_s0, q_ss, List.head?_cons, List.tail_cons, List.map_cons, List.map_nil, List.length_cons, List.length_nil, List.cons_append, List.nil_append, List.replicate_succ, List.replicate_zero, Nat.reduceSub, Nat.reduceAdd, Bool.false_xor, Bool.true_xor, Bool.not_true, Bool.not_false, beq_self_eq_true, isBool, isInt, isStr, isTuple, q_callI, if_true, ite_true, List.nodup_nil, List.nodup_cons, List.not_mem_nil, not_false_eq_true, and_true, true_and, and_self, q_fg0, q_fg1, q_fg2, q_fg3, q_fg4, q_fg5, q_fg6, q_lg0, q_lg1, q_lg2, q_lg3, q_lg4, q_lg5, q_sub, q_sub1, q_sub2, q_sub3, q_sub4, q_sub5, q_rng2, q_rng2a, q_aS, q_aS1, q_aS2, q_aS3, q_aS4, q_aS5, q_aS5', q_aS7, h1, hg, e2, Bool.false_eq_true, if_false]
  | false => simp only [q_var, q_var1, q_var2, q_mv, q_mv1, q_mv2, q_c, q_pr, q_bin, q_bin1, q_bin2, q_dv, q_do, q_tst, q_tst1, q_isN, q_isN0, q_isN1, q_isN2, q_isN3, q_isN4, q_isN5, q_and, q_and1, q_and2, q_or, q_or1, q_or2, q_not, q_not1, q_yes, q_andV, q_andV1, q_andV2, q_orV, q_orV1, q_orV2, q_notV, q_notV1, q_ifE, q_ifE1, q_ifE2, q_nil, q_cons, q_cons1, q_cons2, q_tup, q_tup1, q_lst, q_lst1, q_cb, q_cb1, q_lenV, q_lenV1, q_seq, q_seq1, q_sl, q_st, q_so, q_sb, q_sf, q_mu, q_mu1, q_mu2, q_muS, q_muS1, q_muS2, q_app, q_app1, q_app2, q_pop, q_pop1, q_rev, q_rev1, q_isi, q_isi1, q_inV, q_inV1, q_ixV, q_ixV1, q_ixV2, q_ixV3, q_ixL, q_ixT, q_kV, q_fI, q_addI, q_eqI, q_eqS, q_eqB, q_int, q_tupL, q_tupT, q_listL, q_listT, q_len1, q_len2, q_neg, q_neg1, q_call, q_call2, q_call3, q_call4, q_cnil, q_ccons, q_ccons1, q_ccons2, q_cb', q_cb'1, q_ar0, q_ar1, q_ar2, q_ar3, q_ar4, q_ar5, q_put0, q_put1, q_put2, q_put3, q_put4, q_put5, q_bix0, q_bix1, q_bix2, q_sq, q_sq1, q_sq2, q_sq3, q_sq4, q_snil, q_ret, q_ret1, q_expr, q_expr1, q_ifS, q_ifS1, q_ifS2, q_set, q_set1, q_asg, q_asg1, q_gname, q_gnil, q_gcons, q_gcons1, q_par, q_par1, q_aug, q_aug1, q_aug2, q_rng, q_iseq, q_iseq1, q_sd1, q_sd2, q_kP2, q_fro, q_fro1, q_for, q_for1, q_k0, q_k1, q_w0, q_w1, q_lc, q_lc2, q_n1, q_n0, q_run, bO_b, bO_v, bO_n, finB0, finB1, q_at0, q_at1, q_at2, q_at3, q_bs, q_bn, q_ms, q_mn, q_g0, q_gs, q_s0, q_ss, List.head?_cons, List.tail_cons, List.map_cons, List.map_nil, List.length_cons, List.length_nil, List.cons_append, List.nil_append, List.replicate_succ, List.replicate_zero, Nat.reduceSub, Nat.reduceAdd, Bool.false_xor, Bool.true_xor, Bool.not_true, Bool.not_false, beq_self_eq_true, isBool, isInt, isStr, isTuple, q_callI, if_true, ite_true, List.nodup_nil, List.nodup_cons, List.not_mem_nil, not_false_eq_true, and_true, true_and, and_self, q_fg0, q_fg1, q_fg2, q_fg3, q_fg4, q_fg5, q_fg6, q_lg0, q_lg1, q_lg2, q_lg3, q_lg4, q_lg5, q_sub, q_sub1, q_sub2, q_sub3, q_sub4, q_sub5, q_rng2, q_rng2a, q_aS, q_aS1, q_aS2, q_aS3, q_aS4, q_aS5, q_aS5', q_aS7, h1, hg, e2, Bool.false_eq_true, if_false]
theorem ca_eq (p : Pg) (wf : p.Wf) (k : Nat) (hk : k ≤ 1000) : f_counts_after [.val p.enc, .val (.int (k : Int))] = some (.val (.tuple [.list (encN (ca p.W p.n k).2.1), .int ((ca p.W p.n k).2.2 : Int)]), [none, none]) := by
  have hn := wf.small
  have hp := wf.pos
  have H := for_fold (g := rgName 4) (b := w_counts_after_1) (ks := [4, 5]) (fun (n : Nat) => PyData.int (n : Int)) (envA p k) (ca1 p.W p.n) (fun s => s.2.1.length = p.n) (fun _ => True) (List.range k) (true, (List.replicate p.n 0).set 0 1, 0) (by simp) (fun _ _ => trivial)
    fun x a hx _ => ca_step p wf k x hx a
  have H1 := H.1
  rw [← rng0] at H1
  have H2 : List.foldl (ca1 p.W p.n) (true, (List.replicate p.n 0).set 0 1, 0) (List.range k) = ca p.W p.n k := rfl
  rw [H2] at H1
  have e1 : ((p.bs.map encB).length : Int) = (p.n : Int) := by rw [len_enc]
  have hrep := q_rep (d := PyData.int 0) (k := p.n) (by omega) (by rw [Nat.one_mul]; exact sz_le (by omega))
  have e3 : (List.replicate p.n (PyData.int 0)) = encN (List.replicate p.n 0) := by unfold encN; rw [List.map_replicate]; rfl
  have hix : ixN (encN (List.replicate p.n 0)).length 0 = some 0 := ix_nat (k := 0) (by rw [encN_len, List.length_replicate]; exact hp)
  have e4 : (encN (List.replicate p.n 0)).set 0 (.int 1) = encN ((List.replicate p.n 0).set 0 1) := (encN_set _ 0 1).symm
  unfold f_counts_after b_counts_after
  unfold envA at H1
  simp only [show ((0 : Nat) : Int) = 0 from rfl, if_true] at H1
  unfold Pg.enc at H1 ⊢
  cases hfl : (ca p.W p.n k).1 with
  | true =>
    rw [hfl] at H1
    simp only [if_true] at H1
    simp only [q_var, q_var1, q_var2, q_mv, q_mv1, q_mv2, q_c, q_pr, q_bin, q_bin1, q_bin2, q_dv, q_do, q_tst, q_tst1, q_isN, q_isN0, q_isN1, q_isN2, q_isN3, q_isN4, q_isN5, q_and, q_and1, q_and2, q_or, q_or1, q_or2, q_not, q_not1, q_yes, q_andV, q_andV1, q_andV2, q_orV, q_orV1, q_orV2, q_notV, q_notV1, q_ifE, q_ifE1, q_ifE2, q_nil, q_cons, q_cons1, q_cons2, q_tup, q_tup1, q_lst, q_lst1, q_cb, q_cb1, q_lenV, q_lenV1, q_seq, q_seq1, q_sl, q_st, q_so, q_sb, q_sf, q_mu, q_mu1, q_mu2, q_muS, q_muS1, q_muS2, q_app, q_app1, q_app2, q_pop, q_pop1, q_rev, q_rev1, q_isi, q_isi1, q_inV, q_inV1, q_ixV, q_ixV1, q_ixV2, q_ixV3, q_ixL, q_ixT, q_kV, q_fI, q_addI, q_eqI, q_eqS, q_eqB, q_int, q_tupL, q_tupT, q_listL, q_listT, q_len1, q_len2, q_neg, q_neg1, q_call, q_call2, q_call3, q_call4, q_cnil, q_ccons, q_ccons1, q_ccons2, q_cb', q_cb'1, q_ar0, q_ar1, q_ar2, q_ar3, q_ar4, q_ar5, q_put0, q_put1, q_put2, q_put3, q_put4, q_put5, q_bix0, q_bix1, q_bix2, q_sq, q_sq1, q_sq2, q_sq3, q_sq4, q_snil, q_ret, q_ret1, q_expr, q_expr1, q_ifS, q_ifS1, q_ifS2, q_set, q_set1, q_asg, q_asg1, q_gname, q_gnil, q_gcons, q_gcons1, q_par, q_par1, q_aug, q_aug1, q_aug2, q_rng, q_iseq, q_iseq1, q_sd1, q_sd2, q_kP2, q_fro, q_fro1, q_for, q_for1, q_k0, q_k1, q_w0, q_w1, q_lc, q_lc2, q_n1, q_n0, q_run, bO_b, bO_v, bO_n, finB0, finB1, q_at0, q_at1, q_at2, q_at3, q_bs, q_bn, q_ms, q_mn, q_g0, q_gs, q_s0, q_ss, List.head?_cons, List.tail_cons, List.map_cons, List.map_nil, List.length_cons, List.length_nil, List.cons_append, List.nil_append, List.replicate_succ, List.replicate_zero, Nat.reduceSub, Nat.reduceAdd, Bool.false_xor, Bool.true_xor, Bool.not_true, Bool.not_false, beq_self_eq_true, isBool, isInt, isStr, isTuple, q_callI, if_true, ite_true, List.nodup_nil, List.nodup_cons, List.not_mem_nil, not_false_eq_true, and_true, true_and, and_self, q_fg0, q_fg1, q_fg2, q_fg3, q_fg4, q_fg5, q_fg6, q_lg0, q_lg1, q_lg2, q_lg3, q_lg4, q_lg5, q_sub, q_sub1, q_sub2, q_sub3, q_sub4, q_sub5, q_rng2, q_rng2a, q_aS, q_aS1, q_aS2, q_aS3, q_aS4, q_aS5, q_aS5', q_aS7, e1, hrep, e3, hix, e4, q_rng1 (n62 hk), Int.toNat_natCast, H1]
  | false =>
    rw [hfl] at H1
    simp only [Bool.false_eq_true, if_false] at H1
    simp only [q_var, q_var1, q_var2, q_mv, q_mv1, q_mv2, q_c, q_pr, q_bin, q_bin1, q_bin2, q_dv, q_do, q_tst, q_tst1, q_isN, q_isN0, q_isN1, q_isN2, q_isN3, q_isN4, q_isN5, q_and, q_and1, q_and2, q_or, q_or1, q_or2, q_not, q_not1, q_yes, q_andV, q_andV1, q_andV2, q_orV, q_orV1, q_orV2, q_notV, q_notV1, q_ifE, q_ifE1, q_ifE2, q_nil, q_cons, q_cons1, q_cons2, q_tup, q_tup1, q_lst, q_lst1, q_cb, q_cb1, q_lenV, q_lenV1, q_seq, q_seq1, q_sl, q_st, q_so, q_sb, q_sf, q_mu, q_mu1, q_mu2, q_muS, q_muS1, q_muS2, q_app, q_app1, q_app2, q_pop, q_pop1, q_rev, q_rev1, q_isi, q_isi1, q_inV, q_inV1, q_ixV, q_ixV1, q_ixV2, q_ixV3, q_ixL, q_ixT, q_kV, q_fI, q_addI, q_eqI, q_eqS, q_eqB, q_int, q_tupL, q_tupT, q_listL, q_listT, q_len1, q_len2, q_neg, q_neg1, q_call, q_call2, q_call3, q_call4, q_cnil, q_ccons, q_ccons1, q_ccons2, q_cb', q_cb'1, q_ar0, q_ar1, q_ar2, q_ar3, q_ar4, q_ar5, q_put0, q_put1, q_put2, q_put3, q_put4, q_put5, q_bix0, q_bix1, q_bix2, q_sq, q_sq1, q_sq2, q_sq3, q_sq4, q_snil, q_ret, q_ret1, q_expr, q_expr1, q_ifS, q_ifS1, q_ifS2, q_set, q_set1, q_asg, q_asg1, q_gname, q_gnil, q_gcons, q_gcons1, q_par, q_par1, q_aug, q_aug1, q_aug2, q_rng, q_iseq, q_iseq1, q_sd1, q_sd2, q_kP2, q_fro, q_fro1, q_for, q_for1, q_k0, q_k1, q_w0, q_w1, q_lc, q_lc2, q_n1, q_n0, q_run, bO_b, bO_v, bO_n, finB0, finB1, q_at0, q_at1, q_at2, q_at3, q_bs, q_bn, q_ms, q_mn, q_g0, q_gs, q_s0, q_ss, List.head?_cons, List.tail_cons, List.map_cons, List.map_nil, List.length_cons, List.length_nil, List.cons_append, List.nil_append, List.replicate_succ, List.replicate_zero, Nat.reduceSub, Nat.reduceAdd, Bool.false_xor, Bool.true_xor, Bool.not_true, Bool.not_false, beq_self_eq_true, isBool, isInt, isStr, isTuple, q_callI, if_true, ite_true, List.nodup_nil, List.nodup_cons, List.not_mem_nil, not_false_eq_true, and_true, true_and, and_self, q_fg0, q_fg1, q_fg2, q_fg3, q_fg4, q_fg5, q_fg6, q_lg0, q_lg1, q_lg2, q_lg3, q_lg4, q_lg5, q_sub, q_sub1, q_sub2, q_sub3, q_sub4, q_sub5, q_rng2, q_rng2a, q_aS, q_aS1, q_aS2, q_aS3, q_aS4, q_aS5, q_aS5', q_aS7, e1, hrep, e3, hix, e4, q_rng1 (n62 hk), Int.toNat_natCast, H1]
theorem within_eq (p : Pg) (wf : p.Wf) (k : Nat) (hk : k ≤ 1000) : f_rows_within [.val p.enc, .val (.int (k : Int))] = some (.val (.int ((ca p.W p.n k).2.2 : Int)), [none, none]) := by
  unfold f_rows_within b_rows_within
  simp only [q_var, q_var1, q_var2, q_mv, q_mv1, q_mv2, q_c, q_pr, q_bin, q_bin1, q_bin2, q_dv, q_do, q_tst, q_tst1, q_isN, q_isN0, q_isN1, q_isN2, q_isN3, q_isN4, q_isN5, q_and, q_and1, q_and2, q_or, q_or1, q_or2, q_not, q_not1, q_yes, q_andV, q_andV1, q_andV2, q_orV, q_orV1, q_orV2, q_notV, q_notV1, q_ifE, q_ifE1, q_ifE2, q_nil, q_cons, q_cons1, q_cons2, q_tup, q_tup1, q_lst, q_lst1, q_cb, q_cb1, q_lenV, q_lenV1, q_seq, q_seq1, q_sl, q_st, q_so, q_sb, q_sf, q_mu, q_mu1, q_mu2, q_muS, q_muS1, q_muS2, q_app, q_app1, q_app2, q_pop, q_pop1, q_rev, q_rev1, q_isi, q_isi1, q_inV, q_inV1, q_ixV, q_ixV1, q_ixV2, q_ixV3, q_ixL, q_ixT, q_kV, q_fI, q_addI, q_eqI, q_eqS, q_eqB, q_int, q_tupL, q_tupT, q_listL, q_listT, q_len1, q_len2, q_neg, q_neg1, q_call, q_call2, q_call3, q_call4, q_cnil, q_ccons, q_ccons1, q_ccons2, q_cb', q_cb'1, q_ar0, q_ar1, q_ar2, q_ar3, q_ar4, q_ar5, q_put0, q_put1, q_put2, q_put3, q_put4, q_put5, q_bix0, q_bix1, q_bix2, q_sq, q_sq1, q_sq2, q_sq3, q_sq4, q_snil, q_ret, q_ret1, q_expr, q_expr1, q_ifS, q_ifS1, q_ifS2, q_set, q_set1, q_asg, q_asg1, q_gname, q_gnil, q_gcons, q_gcons1, q_par, q_par1, q_aug, q_aug1, q_aug2, q_rng, q_iseq, q_iseq1, q_sd1, q_sd2, q_kP2, q_fro, q_fro1, q_for, q_for1, q_k0, q_k1, q_w0, q_w1, q_lc, q_lc2, q_n1, q_n0, q_run, bO_b, bO_v, bO_n, finB0, finB1, q_at0, q_at1, q_at2, q_at3, q_bs, q_bn, q_ms, q_mn, q_g0, q_gs, q_s0, q_ss, List.head?_cons, List.tail_cons, List.map_cons, List.map_nil, List.length_cons, List.length_nil, List.cons_append, List.nil_append, List.replicate_succ, List.replicate_zero, Nat.reduceSub, Nat.reduceAdd, Bool.false_xor, Bool.true_xor, Bool.not_true, Bool.not_false, beq_self_eq_true, isBool, isInt, isStr, isTuple, q_callI, if_true, ite_true, List.nodup_nil, List.nodup_cons, List.not_mem_nil, not_false_eq_true, and_true, true_and, and_self, q_fg0, q_fg1, q_fg2, q_fg3, q_fg4, q_fg5, q_fg6, q_lg0, q_lg1, q_lg2, q_lg3, q_lg4, q_lg5, q_sub, q_sub1, q_sub2, q_sub3, q_sub4, q_sub5, q_rng2, q_rng2a, q_aS, q_aS1, q_aS2, q_aS3, q_aS4, q_aS5, q_aS5', q_aS7, ca_eq p wf k hk]
theorem sum_cast : ∀ (l : List Nat), (l.map fun (n : Nat) => (n : Int)).sum = ((l.sum : Nat) : Int)
  | [] => rfl
  | x :: l => by rw [List.map_cons, List.sum_cons, List.sum_cons, sum_cast l]; omega
theorem sumN (l : List Nat) : fSum [.list (encN l)] = some (.val (.int ((l.sum : Nat) : Int))) := by
  show (intsOf (encN l)).bind (fun ns => (some (PyData.int ns.sum)).map S.val) = _
  rw [encN_ints, intsOf_ints, Option.bind_some, Option.map_some, sum_cast]
theorem open_eq (p : Pg) (wf : p.Wf) (k : Nat) (hk : k ≤ 1000) : f_rows_open [.val p.enc, .val (.int (k : Int))] = some (.val (.int (((ca p.W p.n k).2.1.sum : Nat) : Int)), [none, none]) := by
  unfold f_rows_open b_rows_open
  simp only [q_var, q_var1, q_var2, q_mv, q_mv1, q_mv2, q_c, q_pr, q_bin, q_bin1, q_bin2, q_dv, q_do, q_tst, q_tst1, q_isN, q_isN0, q_isN1, q_isN2, q_isN3, q_isN4, q_isN5, q_and, q_and1, q_and2, q_or, q_or1, q_or2, q_not, q_not1, q_yes, q_andV, q_andV1, q_andV2, q_orV, q_orV1, q_orV2, q_notV, q_notV1, q_ifE, q_ifE1, q_ifE2, q_nil, q_cons, q_cons1, q_cons2, q_tup, q_tup1, q_lst, q_lst1, q_cb, q_cb1, q_lenV, q_lenV1, q_seq, q_seq1, q_sl, q_st, q_so, q_sb, q_sf, q_mu, q_mu1, q_mu2, q_muS, q_muS1, q_muS2, q_app, q_app1, q_app2, q_pop, q_pop1, q_rev, q_rev1, q_isi, q_isi1, q_inV, q_inV1, q_ixV, q_ixV1, q_ixV2, q_ixV3, q_ixL, q_ixT, q_kV, q_fI, q_addI, q_eqI, q_eqS, q_eqB, q_int, q_tupL, q_tupT, q_listL, q_listT, q_len1, q_len2, q_neg, q_neg1, q_call, q_call2, q_call3, q_call4, q_cnil, q_ccons, q_ccons1, q_ccons2, q_cb', q_cb'1, q_ar0, q_ar1, q_ar2, q_ar3, q_ar4, q_ar5, q_put0, q_put1, q_put2, q_put3, q_put4, q_put5, q_bix0, q_bix1, q_bix2, q_sq, q_sq1, q_sq2, q_sq3, q_sq4, q_snil, q_ret, q_ret1, q_expr, q_expr1, q_ifS, q_ifS1, q_ifS2, q_set, q_set1, q_asg, q_asg1, q_gname, q_gnil, q_gcons, q_gcons1, q_par, q_par1, q_aug, q_aug1, q_aug2, q_rng, q_iseq, q_iseq1, q_sd1, q_sd2, q_kP2, q_fro, q_fro1, q_for, q_for1, q_k0, q_k1, q_w0, q_w1, q_lc, q_lc2, q_n1, q_n0, q_run, bO_b, bO_v, bO_n, finB0, finB1, q_at0, q_at1, q_at2, q_at3, q_bs, q_bn, q_ms, q_mn, q_g0, q_gs, q_s0, q_ss, List.head?_cons, List.tail_cons, List.map_cons, List.map_nil, List.length_cons, List.length_nil, List.cons_append, List.nil_append, List.replicate_succ, List.replicate_zero, Nat.reduceSub, Nat.reduceAdd, Bool.false_xor, Bool.true_xor, Bool.not_true, Bool.not_false, beq_self_eq_true, isBool, isInt, isStr, isTuple, q_callI, if_true, ite_true, List.nodup_nil, List.nodup_cons, List.not_mem_nil, not_false_eq_true, and_true, true_and, and_self, q_fg0, q_fg1, q_fg2, q_fg3, q_fg4, q_fg5, q_fg6, q_lg0, q_lg1, q_lg2, q_lg3, q_lg4, q_lg5, q_sub, q_sub1, q_sub2, q_sub3, q_sub4, q_sub5, q_rng2, q_rng2a, q_aS, q_aS1, q_aS2, q_aS3, q_aS4, q_aS5, q_aS5', q_aS7, ca_eq p wf k hk, sumN]
/-! ### steps along a row -/
/-- what a turn does: left with a pair, or gone on with -/
def alT (W : Nat → List Nat) (row : List Nat) (k b a : Nat) : (D ⊕ (Nat × Nat)) :=
  match W b with
  | [] => .inl (.tuple [.str "ended", .int ((k + 1 : Nat) : Int)])
  | [w] => .inr (w, a)
  | l :: m :: _ => if a = row.length then .inl (.tuple [.str "asks", .int (k : Int)]) else .inr (if row.getD a 0 = 1 then l else m, a + 1)
def alG (W : Nat → List Nat) (row : List Nat) (most : Nat) : List Nat → Nat → Nat → D
  | [], _, _ => .tuple [.str "open", .int (most : Int)]
  | k :: ks, b, a => match alT W row k b a with
    | .inl d => d
    | .inr (b', a') => alG W row most ks b' a'
def envS (p : Pg) (row : List Nat) (most b a : Nat) : En := [some (.val p.enc), some (.val (.tuple (encN row))), some (.val (.int (most : Int))), some (.val (.int (b : Int))), some (.val (.int (a : Int))), none, none]
def resS (p : Pg) (row : List Nat) (most : Nat) (d : D) (o : Option Out) : Prop := (∃ b a, o = some (.nx (envS p row most b a)) ∧ d = .tuple [.str "open", .int (most : Int)]) ∨ ∃ ρ, o = some (.rt (.val d) ρ) ∧ finB 3 ρ = [none, none, none]
theorem al_step (p : Pg) (wf : p.Wf) (row : List Nat) (hrow : ∀ x ∈ row, x < 2) (hrl : row.length ≤ 1000) (most k b a : Nat) (hb : b < p.n) (ha : a ≤ row.length) :
    match alT p.W row k b a with
    | .inl d => ∃ ρ, w_steps_along_1 ((envS p row most b a).set 5 (some (.val (.int (k : Int))))) = some (.rt (.val d) ρ) ∧ finB 3 ρ = [none, none, none]
    | .inr (b', a') => b' < p.n ∧ a' ≤ row.length ∧ ∃ ρ2, w_steps_along_1 ((envS p row most b a).set 5 (some (.val (.int (k : Int))))) = some (.nx ρ2) ∧ killE [5, 6] ρ2 = envS p row most b' a' := by
  have hlen : ((encN row).length : Int) = ((row.length : Nat) : Int) := by rw [encN_len]
  rcases W_cases p b with h | ⟨l, h⟩ | ⟨l, m, h⟩
  · unfold alT
    rw [h]
    have e : ((k : Int) + 1) = ((k + 1 : Nat) : Int) := by omega
    refine ⟨[some (.val p.enc), some (.val (.tuple (encN row))), some (.val (.int (most : Int))), some (.val (.int (b : Int))), some (.val (.int (a : Int))), some (.val (.int (k : Int))), some (.val (.tuple (encN [])))], ?_, rfl⟩
    unfold w_steps_along_1 envS
    have l0 : ((encN []).length : Int) = 0 := rfl
    simp only [q_var, q_var1, q_var2, q_mv, q_mv1, q_mv2, q_c, q_pr, q_bin, q_bin1, q_bin2, q_dv, q_do, q_tst, q_tst1, q_isN, q_isN0, q_isN1, q_isN2, q_isN3, q_isN4, q_isN5, q_and, q_and1, q_and2, q_or, q_or1, q_or2, q_not, q_not1, q_yes, q_andV, q_andV1, q_andV2, q_orV, q_orV1, q_orV2, q_notV, q_notV1, q_ifE, q_ifE1, q_ifE2, q_nil, q_cons, q_cons1, q_cons2, q_tup, q_tup1, q_lst, q_lst1, q_cb, q_cb1, q_lenV, q_lenV1, q_seq, q_seq1, q_sl, q_st, q_so, q_sb, q_sf, q_mu, q_mu1, q_mu2, q_muS, q_muS1, q_muS2, q_app, q_app1, q_app2, q_pop, q_pop1, q_rev, q_rev1, q_isi, q_isi1, q_inV, q_inV1, q_ixV, q_ixV1, q_ixV2, q_ixV3, q_ixL, q_ixT, q_kV, q_fI, q_addI, q_eqI, q_eqS, q_eqB, q_int, q_tupL, q_tupT, q_listL, q_listT, q_len1, q_len2, q_neg, q_neg1, q_call, q_call2, q_call3, q_call4, q_cnil, q_ccons, q_ccons1, q_ccons2, q_cb', q_cb'1, q_ar0, q_ar1, q_ar2, q_ar3, q_ar4, q_ar5, q_put0, q_put1, q_put2, q_put3, q_put4, q_put5, q_bix0, q_bix1, q_bix2, q_sq, q_sq1, q_sq2, q_sq3, q_sq4, q_snil, q_ret, q_ret1, q_expr, q_expr1, q_ifS, q_ifS1, q_ifS2, q_set, q_set1, q_asg, q_asg1, q_gname, q_gnil, q_gcons, q_gcons1, q_par, q_par1, q_aug, q_aug1, q_aug2, q_rng, q_iseq, q_iseq1, q_sd1, q_sd2, q_kP2, q_fro, q_fro1, q_for, q_for1, q_k0, q_k1, q_w0, q_w1, q_lc, q_lc2, q_n1, q_n0, q_run, bO_b, bO_v, bO_n, finB0, finB1, q_at0, q_at1, q_at2, q_at3, q_bs, q_bn, q_ms, q_mn, q_g0, q_gs, q_s0, q_ss, List.head?_cons, List.tail_cons, List.map_cons, List.map_nil, List.length_cons, List.length_nil, List.cons_append, List.nil_append, List.replicate_succ, List.replicate_zero, Nat.reduceSub, Nat.reduceAdd, Bool.false_xor, Bool.true_xor, Bool.not_true, Bool.not_false, beq_self_eq_true, isBool, isInt, isStr, isTuple, q_callI, if_true, ite_true, List.nodup_nil, List.nodup_cons, List.not_mem_nil, not_false_eq_true, and_true, true_and, and_self, q_fg0, q_fg1, q_fg2, q_fg3, q_fg4, q_fg5, q_fg6, q_lg0, q_lg1, q_lg2, q_lg3, q_lg4, q_lg5, q_sub, q_sub1, q_sub2, q_sub3, q_sub4, q_sub5, q_rng2, q_rng2a, q_aS, q_aS1, q_aS2, q_aS3, q_aS4, q_aS5, q_aS5', q_aS7, behind_eq hb, h, l0, e]
  · unfold alT
    rw [h]
    refine ⟨wf.go b l (by rw [h]; simp), ha, [some (.val p.enc), some (.val (.tuple (encN row))), some (.val (.int (most : Int))), some (.val (.int (l : Int))), some (.val (.int (a : Int))), some (.val (.int (k : Int))), some (.val (.tuple (encN [l])))], ?_, rfl⟩
    unfold w_steps_along_1 envS
    have l0 : ((encN [l]).length : Int) = 1 := rfl
    have l1 : ((1 : Int) == 0) = false := by decide
    have l2 : ((1 : Int) == 2) = false := by decide
    have l3 : atI (encN [l]) 0 = some (.int (l : Int)) := rfl
    simp only [q_var, q_var1, q_var2, q_mv, q_mv1, q_mv2, q_c, q_pr, q_bin, q_bin1, q_bin2, q_dv, q_do, q_tst, q_tst1, q_isN, q_isN0, q_isN1, q_isN2, q_isN3, q_isN4, q_isN5, q_and, q_and1, q_and2, q_or, q_or1, q_or2, q_not, q_not1, q_yes, q_andV, q_andV1, q_andV2, q_orV, q_orV1, q_orV2, q_notV, q_notV1, q_ifE, q_ifE1, q_ifE2, q_nil, q_cons, q_cons1, q_cons2, q_tup, q_tup1, q_lst, q_lst1, q_cb, q_cb1, q_lenV, q_lenV1, q_seq, q_seq1, q_sl, q_st, q_so, q_sb, q_sf, q_mu, q_mu1, q_mu2, q_muS, q_muS1, q_muS2, q_app, q_app1, q_app2, q_pop, q_pop1, q_rev, q_rev1, q_isi, q_isi1, q_inV, q_inV1, q_ixV, q_ixV1, q_ixV2, q_ixV3, q_ixL, q_ixT, q_kV, q_fI, q_addI, q_eqI, q_eqS, q_eqB, q_int, q_tupL, q_tupT, q_listL, q_listT, q_len1, q_len2, q_neg, q_neg1, q_call, q_call2, q_call3, q_call4, q_cnil, q_ccons, q_ccons1, q_ccons2, q_cb', q_cb'1, q_ar0, q_ar1, q_ar2, q_ar3, q_ar4, q_ar5, q_put0, q_put1, q_put2, q_put3, q_put4, q_put5, q_bix0, q_bix1, q_bix2, q_sq, q_sq1, q_sq2, q_sq3, q_sq4, q_snil, q_ret, q_ret1, q_expr, q_expr1, q_ifS, q_ifS1, q_ifS2, q_set, q_set1, q_asg, q_asg1, q_gname, q_gnil, q_gcons, q_gcons1, q_par, q_par1, q_aug, q_aug1, q_aug2, q_rng, q_iseq, q_iseq1, q_sd1, q_sd2, q_kP2, q_fro, q_fro1, q_for, q_for1, q_k0, q_k1, q_w0, q_w1, q_lc, q_lc2, q_n1, q_n0, q_run, bO_b, bO_v, bO_n, finB0, finB1, q_at0, q_at1, q_at2, q_at3, q_bs, q_bn, q_ms, q_mn, q_g0, q_gs, q_s0, q_ss, List.head?_cons, List.tail_cons, List.map_cons, List.map_nil, List.length_cons, List.length_nil, List.cons_append, List.nil_append, List.replicate_succ, List.replicate_zero, Nat.reduceSub, Nat.reduceAdd, Bool.false_xor, Bool.true_xor, Bool.not_true, Bool.not_false, beq_self_eq_true, isBool, isInt, isStr, isTuple, q_callI, if_true, ite_true, List.nodup_nil, List.nodup_cons, List.not_mem_nil, not_false_eq_true, and_true, true_and, and_self, q_fg0, q_fg1, q_fg2, q_fg3, q_fg4, q_fg5, q_fg6, q_lg0, q_lg1, q_lg2, q_lg3, q_lg4, q_lg5, q_sub, q_sub1, q_sub2, q_sub3, q_sub4, q_sub5, q_rng2, q_rng2a, q_aS, q_aS1, q_aS2, q_aS3, q_aS4, q_aS5, q_aS5', q_aS7, behind_eq hb, h, l0, l1, l2, l3]
  · unfold alT
    rw [h]
    have l0 : ((encN [l, m]).length : Int) = 2 := rfl
    have l1 : ((2 : Int) == 0) = false := by decide
    by_cases hal : a = row.length
    · simp only [hal, if_true]
      refine ⟨[some (.val p.enc), some (.val (.tuple (encN row))), some (.val (.int (most : Int))), some (.val (.int (b : Int))), some (.val (.int ((row.length : Nat) : Int))), some (.val (.int (k : Int))), some (.val (.tuple (encN [l, m])))], ?_, rfl⟩
      unfold w_steps_along_1 envS
      simp only [q_var, q_var1, q_var2, q_mv, q_mv1, q_mv2, q_c, q_pr, q_bin, q_bin1, q_bin2, q_dv, q_do, q_tst, q_tst1, q_isN, q_isN0, q_isN1, q_isN2, q_isN3, q_isN4, q_isN5, q_and, q_and1, q_and2, q_or, q_or1, q_or2, q_not, q_not1, q_yes, q_andV, q_andV1, q_andV2, q_orV, q_orV1, q_orV2, q_notV, q_notV1, q_ifE, q_ifE1, q_ifE2, q_nil, q_cons, q_cons1, q_cons2, q_tup, q_tup1, q_lst, q_lst1, q_cb, q_cb1, q_lenV, q_lenV1, q_seq, q_seq1, q_sl, q_st, q_so, q_sb, q_sf, q_mu, q_mu1, q_mu2, q_muS, q_muS1, q_muS2, q_app, q_app1, q_app2, q_pop, q_pop1, q_rev, q_rev1, q_isi, q_isi1, q_inV, q_inV1, q_ixV, q_ixV1, q_ixV2, q_ixV3, q_ixL, q_ixT, q_kV, q_fI, q_addI, q_eqI, q_eqS, q_eqB, q_int, q_tupL, q_tupT, q_listL, q_listT, q_len1, q_len2, q_neg, q_neg1, q_call, q_call2, q_call3, q_call4, q_cnil, q_ccons, q_ccons1, q_ccons2, q_cb', q_cb'1, q_ar0, q_ar1, q_ar2, q_ar3, q_ar4, q_ar5, q_put0, q_put1, q_put2, q_put3, q_put4, q_put5, q_bix0, q_bix1, q_bix2, q_sq, q_sq1, q_sq2, q_sq3, q_sq4, q_snil, q_ret, q_ret1, q_expr, q_expr1, q_ifS, q_ifS1, q_ifS2, q_set, q_set1, q_asg, q_asg1, q_gname, q_gnil, q_gcons, q_gcons1, q_par, q_par1, q_aug, q_aug1, q_aug2, q_rng, q_iseq, q_iseq1, q_sd1, q_sd2, q_kP2, q_fro, q_fro1, q_for, q_for1, q_k0, q_k1, q_w0, q_w1, q_lc, q_lc2, q_n1, q_n0, q_run, bO_b, bO_v, bO_n, finB0, finB1, q_at0, q_at1, q_at2, q_at3, q_bs, q_bn, q_ms, q_mn, q_g0, q_gs, q_s0, q_ss, List.head?_cons, List.tail_cons, List.map_cons, List.map_nil, List.length_cons, List.length_nil, List.cons_append, List.nil_append, List.replicate_succ, List.replicate_zero, Nat.reduceSub, Nat.reduceAdd, Bool.false_xor, Bool.true_xor, Bool.not_true, Bool.not_false, beq_self_eq_true, isBool, isInt, isStr, isTuple, q_callI, if_true, ite_true, List.nodup_nil, List.nodup_cons, List.not_mem_nil, not_false_eq_true, and_true, true_and, and_self, q_fg0, q_fg1, q_fg2, q_fg3, q_fg4, q_fg5, q_fg6, q_lg0, q_lg1, q_lg2, q_lg3, q_lg4, q_lg5, q_sub, q_sub1, q_sub2, q_sub3, q_sub4, q_sub5, q_rng2, q_rng2a, q_aS, q_aS1, q_aS2, q_aS3, q_aS4, q_aS5, q_aS5', q_aS7, behind_eq hb, h, l0, l1, hlen]
    · simp only [hal, if_false]
      have hne : ((a : Int) == ((row.length : Nat) : Int)) = false := by rw [beq_eq_false_iff_ne]; omega
      have h1 := at_encN (l := row) (k := a) (by omega)
      have hx : row.getD a 0 < 2 := by
        rw [List.getD_eq_getElem?_getD, List.getElem?_eq_getElem (show a < row.length by omega)]
        exact hrow _ (List.getElem_mem _)
      have e : ((a : Int) + 1) = ((a + 1 : Nat) : Int) := by omega
      refine ⟨?_, by omega, [some (.val p.enc), some (.val (.tuple (encN row))), some (.val (.int (most : Int))), some (.val (.int ((if row.getD a 0 = 1 then l else m : Nat) : Int))), some (.val (.int ((a + 1 : Nat) : Int))), some (.val (.int (k : Int))), some (.val (.tuple (encN [l, m])))], ?_, rfl⟩
      · split
        · exact wf.go b l (by rw [h]; simp)
        · exact wf.go b m (by rw [h]; simp)
      · unfold w_steps_along_1 envS
        have h0 : row.getD a 0 = 0 ∨ row.getD a 0 = 1 := by omega
        rcases h0 with h0 | h0
        · have l3 : atI (encN [l, m]) (1 - ((0 : Nat) : Int)) = some (.int (m : Int)) := rfl
          rw [h0] at h1 ⊢
          simp only [q_var, q_var1, q_var2, q_mv, q_mv1, q_mv2, q_c, q_pr, q_bin, q_bin1, q_bin2, q_dv, q_do, q_tst, q_tst1, q_isN, q_isN0, q_isN1, q_isN2, q_isN3, q_isN4, q_isN5, q_and, q_and1, q_and2, q_or, q_or1, q_or2, q_not, q_not1, q_yes, q_andV, q_andV1, q_andV2, q_orV, q_orV1, q_orV2, q_notV, q_notV1, q_ifE, q_ifE1, q_ifE2, q_nil, q_cons, q_cons1, q_cons2, q_tup, q_tup1, q_lst, q_lst1, q_cb, q_cb1, q_lenV, q_lenV1, q_seq, q_seq1, q_sl, q_st, q_so, q_sb, q_sf, q_mu, q_mu1, q_mu2, q_muS, q_muS1, q_muS2, q_app, q_app1, q_app2, q_pop, q_pop1, q_rev, q_rev1, q_isi, q_isi1, q_inV, q_inV1, q_ixV, q_ixV1, q_ixV2, q_ixV3, q_ixL, q_ixT, q_kV, q_fI, q_addI, q_eqI, q_eqS, q_eqB, q_int, q_tupL, q_tupT, q_listL, q_listT, q_len1, q_len2, q_neg, q_neg1, q_call, q_call2, q_call3, q_call4, q_cnil, q_ccons, q_ccons1, q_ccons2, q_cb', q_cb'1, q_ar0, q_ar1, q_ar2, q_ar3, q_ar4, q_ar5, q_put0, q_put1, q_put2, q_put3, q_put4, q_put5, q_bix0, q_bix1, q_bix2, q_sq, q_sq1, q_sq2, q_sq3, q_sq4, q_snil, q_ret, q_ret1, q_expr, q_expr1, q_ifS, q_ifS1, q_ifS2, q_set, q_set1, q_asg, q_asg1, q_gname, q_gnil, q_gcons, q_gcons1, q_par, q_par1, q_aug, q_aug1, q_aug2, q_rng, q_iseq, q_iseq1, q_sd1, q_sd2, q_kP2, q_fro, q_fro1, q_for, q_for1, q_k0, q_k1, q_w0, q_w1, q_lc, q_lc2, q_n1, q_n0, q_run, bO_b, bO_v, bO_n, finB0, finB1, q_at0, q_at1, q_at2, q_at3, q_bs, q_bn, q_ms, q_mn, q_g0, q_gs, q_s0, q_ss, List.head?_cons, List.tail_cons, List.map_cons, List.map_nil, List.length_cons, List.length_nil, List.cons_append, List.nil_append, List.replicate_succ, List.replicate_zero, Nat.reduceSub, Nat.reduceAdd, Bool.false_xor, Bool.true_xor, Bool.not_true, Bool.not_false, beq_self_eq_true, isBool, isInt, isStr, isTuple, q_callI, if_true, ite_true, List.nodup_nil, List.nodup_cons, List.not_mem_nil, not_false_eq_true, and_true, true_and, and_self, q_fg0, q_fg1, q_fg2, q_fg3, q_fg4, q_fg5, q_fg6, q_lg0, q_lg1, q_lg2, q_lg3, q_lg4, q_lg5, q_sub, q_sub1, q_sub2, q_sub3, q_sub4, q_sub5, q_rng2, q_rng2a, q_aS, q_aS1, q_aS2, q_aS3, q_aS4, q_aS5, q_aS5', q_aS7, behind_eq hb, h, l0, l1, hlen, hne, h1, l3, e, show ¬ ((0 : Nat) = 1) by omega, if_false]
        · have l3 : atI (encN [l, m]) (1 - ((1 : Nat) : Int)) = some (.int (l : Int)) := rfl
          rw [h0] at h1 ⊢
          simp only [q_var, q_var1, q_var2, q_mv, q_mv1, q_mv2, q_c, q_pr, q_bin, q_bin1, q_bin2, q_dv, q_do, q_tst, q_tst1, q_isN, q_isN0, q_isN1, q_isN2, q_isN3, q_isN4, q_isN5, q_and, q_and1, q_and2, q_or, q_or1, q_or2, q_not, q_not1, q_yes, q_andV, q_andV1, q_andV2, q_orV, q_orV1, q_orV2, q_notV, q_notV1, q_ifE, q_ifE1, q_ifE2, q_nil, q_cons, q_cons1, q_cons2, q_tup, q_tup1, q_lst, q_lst1, q_cb, q_cb1, q_lenV, q_lenV1, q_seq, q_seq1, q_sl, q_st, q_so, q_sb, q_sf, q_mu, q_mu1, q_mu2, q_muS, q_muS1, q_muS2, q_app, q_app1, q_app2, q_pop, q_pop1, q_rev, q_rev1, q_isi, q_isi1, q_inV, q_inV1, q_ixV, q_ixV1, q_ixV2, q_ixV3, q_ixL, q_ixT, q_kV, q_fI, q_addI, q_eqI, q_eqS, q_eqB, q_int, q_tupL, q_tupT, q_listL, q_listT, q_len1, q_len2, q_neg, q_neg1, q_call, q_call2, q_call3, q_call4, q_cnil, q_ccons, q_ccons1, q_ccons2, q_cb', q_cb'1, q_ar0, q_ar1, q_ar2, q_ar3, q_ar4, q_ar5, q_put0, q_put1, q_put2, q_put3, q_put4, q_put5, q_bix0, q_bix1, q_bix2, q_sq, q_sq1, q_sq2, q_sq3, q_sq4, q_snil, q_ret, q_ret1, q_expr, q_expr1, q_ifS, q_ifS1, q_ifS2, q_set, q_set1, q_asg, q_asg1, q_gname, q_gnil, q_gcons, q_gcons1, q_par, q_par1, q_aug, q_aug1, q_aug2, q_rng, q_iseq, q_iseq1, q_sd1, q_sd2, q_kP2, q_fro, q_fro1, q_for, q_for1, q_k0, q_k1, q_w0, q_w1, q_lc, q_lc2, q_n1, q_n0, q_run, bO_b, bO_v, bO_n, finB0, finB1, q_at0, q_at1, q_at2, q_at3, q_bs, q_bn, q_ms, q_mn, q_g0, q_gs, q_s0, q_ss, List.head?_cons, List.tail_cons, List.map_cons, List.map_nil, List.length_cons, List.length_nil, List.cons_append, List.nil_append, List.replicate_succ, List.replicate_zero, Nat.reduceSub, Nat.reduceAdd, Bool.false_xor, Bool.true_xor, Bool.not_true, Bool.not_false, beq_self_eq_true, isBool, isInt, isStr, isTuple, q_callI, if_true, ite_true, List.nodup_nil, List.nodup_cons, List.not_mem_nil, not_false_eq_true, and_true, true_and, and_self, q_fg0, q_fg1, q_fg2, q_fg3, q_fg4, q_fg5, q_fg6, q_lg0, q_lg1, q_lg2, q_lg3, q_lg4, q_lg5, q_sub, q_sub1, q_sub2, q_sub3, q_sub4, q_sub5, q_rng2, q_rng2a, q_aS, q_aS1, q_aS2, q_aS3, q_aS4, q_aS5, q_aS5', q_aS7, behind_eq hb, h, l0, l1, hlen, hne, h1, l3, e]
theorem al_go (p : Pg) (wf : p.Wf) (row : List Nat) (hrow : ∀ x ∈ row, x < 2) (hrl : row.length ≤ 1000) (most : Nat) : ∀ (ks : List Nat) (b a : Nat), b < p.n → a ≤ row.length →
    resS p row most (alG p.W row most ks b a) (forGo (rgName 5) w_steps_along_1 [5, 6] (ks.map fun (k : Nat) => PyData.int (k : Int)) (envS p row most b a))
  | [], b, a, _, _ => .inl ⟨b, a, rfl, rfl⟩
  | k :: ks, b, a, hb, ha => by
    have h := al_step p wf row hrow hrl most k b a hb ha
    rw [List.map_cons, q_fg1, q_gname, q_bs, q_fg2]
    unfold alG
    cases e : alT p.W row k b a with
    | inl d =>
      rw [e] at h
      obtain ⟨ρ, h1, h2⟩ := h
      rw [h1, q_bs, q_fg6]
      exact .inr ⟨ρ, rfl, h2⟩
    | inr s =>
      obtain ⟨b', a'⟩ := s
      rw [e] at h
      obtain ⟨hb', ha', ρ2, h1, h2⟩ := h
      rw [h1, q_bs, q_fg3, h2]
      exact al_go p wf row hrow hrl most ks b' a' hb' ha'
theorem along_eq (p : Pg) (wf : p.Wf) (row : List Nat) (hrow : ∀ x ∈ row, x < 2) (hrl : row.length ≤ 1000) (most : Nat) (hm : most ≤ 1000) :
    f_steps_along [.val p.enc, .val (.tuple (encN row)), .val (.int (most : Int))] = some (.val (alG p.W row most (List.range most) 0 0), [none, none, none]) := by
  have H := al_go p wf row hrow hrl most (List.range most) 0 0 wf.pos (Nat.zero_le _)
  rw [← rng0] at H
  unfold f_steps_along b_steps_along
  unfold resS envS at H
  simp only [show ((0 : Nat) : Int) = 0 from rfl] at H
  rcases H with ⟨b, a, h1, h2⟩ | ⟨ρ, h1, h2⟩
  · rw [h2]
    simp only [q_var, q_var1, q_var2, q_mv, q_mv1, q_mv2, q_c, q_pr, q_bin, q_bin1, q_bin2, q_dv, q_do, q_tst, q_tst1, q_isN, q_isN0, q_isN1, q_isN2, q_isN3, q_isN4, q_isN5, q_and, q_and1, q_and2, q_or, q_or1, q_or2, q_not, q_not1, q_yes, q_andV, q_andV1, q_andV2, q_orV, q_orV1, q_orV2, q_notV, q_notV1, q_ifE, q_ifE1, q_ifE2, q_nil, q_cons, q_cons1, q_cons2, q_tup, q_tup1, q_lst, q_lst1, q_cb, q_cb1, q_lenV, q_lenV1, q_seq, q_seq1, q_sl, q_st, q_so, q_sb, q_sf, q_mu, q_mu1, q_mu2, q_muS, q_muS1, q_muS2, q_app, q_app1, q_app2, q_pop, q_pop1, q_rev, q_rev1, q_isi, q_isi1, q_inV, q_inV1, q_ixV, q_ixV1, q_ixV2, q_ixV3, q_ixL, q_ixT, q_kV, q_fI, q_addI, q_eqI, q_eqS, q_eqB, q_int, q_tupL, q_tupT, q_listL, q_listT, q_len1, q_len2, q_neg, q_neg1, q_call, q_call2, q_call3, q_call4, q_cnil, q_ccons, q_ccons1, q_ccons2, q_cb', q_cb'1, q_ar0, q_ar1, q_ar2, q_ar3, q_ar4, q_ar5, q_put0, q_put1, q_put2, q_put3, q_put4, q_put5, q_bix0, q_bix1, q_bix2, q_sq, q_sq1, q_sq2, q_sq3, q_sq4, q_snil, q_ret, q_ret1, q_expr, q_expr1, q_ifS, q_ifS1, q_ifS2, q_set, q_set1, q_asg, q_asg1, q_gname, q_gnil, q_gcons, q_gcons1, q_par, q_par1, q_aug, q_aug1, q_aug2, q_rng, q_iseq, q_iseq1, q_sd1, q_sd2, q_kP2, q_fro, q_fro1, q_for, q_for1, q_k0, q_k1, q_w0, q_w1, q_lc, q_lc2, q_n1, q_n0, q_run, bO_b, bO_v, bO_n, finB0, finB1, q_at0, q_at1, q_at2, q_at3, q_bs, q_bn, q_ms, q_mn, q_g0, q_gs, q_s0, q_ss, List.head?_cons, List.tail_cons, List.map_cons, List.map_nil, List.length_cons, List.length_nil, List.cons_append, List.nil_append, List.replicate_succ, List.replicate_zero, Nat.reduceSub, Nat.reduceAdd, Bool.false_xor, Bool.true_xor, Bool.not_true, Bool.not_false, beq_self_eq_true, isBool, isInt, isStr, isTuple, q_callI, if_true, ite_true, List.nodup_nil, List.nodup_cons, List.not_mem_nil, not_false_eq_true, and_true, true_and, and_self, q_fg0, q_fg1, q_fg2, q_fg3, q_fg4, q_fg5, q_fg6, q_lg0, q_lg1, q_lg2, q_lg3, q_lg4, q_lg5, q_sub, q_sub1, q_sub2, q_sub3, q_sub4, q_sub5, q_rng2, q_rng2a, q_aS, q_aS1, q_aS2, q_aS3, q_aS4, q_aS5, q_aS5', q_aS7, q_rng1 (n62 hm), Int.toNat_natCast, h1]
  · simp only [q_var, q_var1, q_var2, q_mv, q_mv1, q_mv2, q_c, q_pr, q_bin, q_bin1, q_bin2, q_dv, q_do, q_tst, q_tst1, q_isN, q_isN0, q_isN1, q_isN2, q_isN3, q_isN4, q_isN5, q_and, q_and1, q_and2, q_or, q_or1, q_or2, q_not, q_not1, q_yes, q_andV, q_andV1, q_andV2, q_orV, q_orV1, q_orV2, q_notV, q_notV1, q_ifE, q_ifE1, q_ifE2, q_nil, q_cons, q_cons1, q_cons2, q_tup, q_tup1, q_lst, q_lst1, q_cb, q_cb1, q_lenV, q_lenV1, q_seq, q_seq1, q_sl, q_st, q_so, q_sb, q_sf, q_mu, q_mu1, q_mu2, q_muS, q_muS1, q_muS2, q_app, q_app1, q_app2, q_pop, q_pop1, q_rev, q_rev1, q_isi, q_isi1, q_inV, q_inV1, q_ixV, q_ixV1, q_ixV2, q_ixV3, q_ixL, q_ixT, q_kV, q_fI, q_addI, q_eqI, q_eqS, q_eqB, q_int, q_tupL, q_tupT, q_listL, q_listT, q_len1, q_len2, q_neg, q_neg1, q_call, q_call2, q_call3, q_call4, q_cnil, q_ccons, q_ccons1, q_ccons2, q_cb', q_cb'1, q_ar0, q_ar1, q_ar2, q_ar3, q_ar4, q_ar5, q_put0, q_put1, q_put2, q_put3, q_put4, q_put5, q_bix0, q_bix1, q_bix2, q_sq, q_sq1, q_sq2, q_sq3, q_sq4, q_snil, q_ret, q_ret1, q_expr, q_expr1, q_ifS, q_ifS1, q_ifS2, q_set, q_set1, q_asg, q_asg1, q_gname, q_gnil, q_gcons, q_gcons1, q_par, q_par1, q_aug, q_aug1, q_aug2, q_rng, q_iseq, q_iseq1, q_sd1, q_sd2, q_kP2, q_fro, q_fro1, q_for, q_for1, q_k0, q_k1, q_w0, q_w1, q_lc, q_lc2, q_n1, q_n0, q_run, bO_b, bO_v, bO_n, finB0, finB1, q_at0, q_at1, q_at2, q_at3, q_bs, q_bn, q_ms, q_mn, q_g0, q_gs, q_s0, q_ss, List.head?_cons, List.tail_cons, List.map_cons, List.map_nil, List.length_cons, List.length_nil, List.cons_append, List.nil_append, List.replicate_succ, List.replicate_zero, Nat.reduceSub, Nat.reduceAdd, Bool.false_xor, Bool.true_xor, Bool.not_true, Bool.not_false, beq_self_eq_true, isBool, isInt, isStr, isTuple, q_callI, if_true, ite_true, List.nodup_nil, List.nodup_cons, List.not_mem_nil, not_false_eq_true, and_true, true_and, and_self, q_fg0, q_fg1, q_fg2, q_fg3, q_fg4, q_fg5, q_fg6, q_lg0, q_lg1, q_lg2, q_lg3, q_lg4, q_lg5, q_sub, q_sub1, q_sub2, q_sub3, q_sub4, q_sub5, q_rng2, q_rng2a, q_aS, q_aS1, q_aS2, q_aS3, q_aS4, q_aS5, q_aS5', q_aS7, q_rng1 (n62 hm), Int.toNat_natCast, h1, h2]
end K50

set_option Elab.async false
set_option linter.all false
set_option maxRecDepth 100000
set_option maxHeartbeats 4000000
namespace K50
/-! the plain law: counts over graphs, no program in sight -/
/-- blocks of the rows that end within r blocks, from block b, k passed -/
def ts (W : Nat → List Nat) : Nat → Nat → Nat → List Nat
  | 0, _, _ => []
  | r + 1, b, k => if (W b).isEmpty then [k + 1] else (W b).reverse.flatMap fun w => ts W r w (k + 1)
def ends (W : Nat → List Nat) : Nat → Nat → Prop
  | 0, _ => False
  | s + 1, b => (s = 0 ∧ W b = []) ∨ ∃ w ∈ W b, ends W s w
theorem mem_ts (W : Nat → List Nat) : ∀ (r b k m : Nat), m ∈ ts W r b k ↔ ∃ s, s ≤ r ∧ ends W s b ∧ m = k + s
  | 0, b, k, m => by
    refine ⟨fun h => (List.not_mem_nil h).elim, ?_⟩
    rintro ⟨s, h1, h2, _⟩
    have : s = 0 := by omega
    subst this
    exact h2.elim
  | r + 1, b, k, m => by
    unfold ts
    by_cases h : W b = []
    · rw [if_pos (by simp [h])]
      constructor
      · intro hm
        have : m = k + 1 := by simpa using hm
        exact ⟨1, by omega, .inl ⟨rfl, h⟩, this⟩
      · rintro ⟨s, h1, h2, h3⟩
        cases s with
        | zero => exact h2.elim
        | succ s =>
          rcases h2 with ⟨h4, _⟩ | ⟨w, hw, _⟩
          · subst h4; simp [h3]
          · rw [h] at hw; exact (List.not_mem_nil hw).elim
    · rw [if_neg (by simpa using h)]
      rw [List.mem_flatMap]
      constructor
      · rintro ⟨w, hw, hm⟩
        obtain ⟨s, h1, h2, h3⟩ := (mem_ts W r w (k + 1) m).mp hm
        exact ⟨s + 1, by omega, .inr ⟨w, List.mem_reverse.mp hw, h2⟩, by omega⟩
      · rintro ⟨s, h1, h2, h3⟩
        cases s with
        | zero => exact h2.elim
        | succ s =>
          rcases h2 with ⟨_, h4⟩ | ⟨w, hw, h5⟩
          · exact absurd h4 h
          · exact ⟨w, List.mem_reverse.mpr hw, (mem_ts W r w (k + 1) m).mpr ⟨s, by omega, h5, by omega⟩⟩
/-! fewest -/
def dist (W : Nat → List Nat) : Nat → Nat → Option Nat
  | 0, _ => none
  | s + 1, b => match dist W s b with
    | some t => some t
    | none => if ((W b).isEmpty || (W b).any fun w => dist W s w == some s) = true then some (s + 1) else none
theorem dist_le (W : Nat → List Nat) : ∀ (s b t : Nat), dist W s b = some t → t ≤ s ∧ ends W t b ∧ ∀ t', t' < t → ¬ ends W t' b
  | 0, b, t, h => by cases h
  | s + 1, b, t, h => by
    unfold dist at h
    cases e : dist W s b with
    | some t1 =>
      rw [e] at h
      cases h
      obtain ⟨h1, h2, h3⟩ := dist_le W s b t e
      exact ⟨by omega, h2, h3⟩
    | none =>
      rw [e] at h
      simp only at h
      have hno := dist_none W s b e
      split at h
      · rename_i hc
        cases h
        refine ⟨Nat.le_refl _, ?_, fun t' ht' => hno t' (by omega)⟩
        rw [Bool.or_eq_true] at hc
        rcases hc with hc | hc
        · have hw : W b = [] := by simpa using hc
          cases s with
          | zero => exact .inl ⟨rfl, hw⟩
          | succ s => exact absurd (show ends W 1 b from .inl ⟨rfl, hw⟩) (hno 1 (by omega))
        · obtain ⟨w, hw, h1⟩ := List.any_eq_true.mp hc
          have h2 : dist W s w = some s := by simpa using h1
          exact .inr ⟨w, hw, (dist_le W s w s h2).2.1⟩
      · cases h
where
  dist_none (W : Nat → List Nat) : ∀ (s b : Nat), dist W s b = none → ∀ t', t' ≤ s → ¬ ends W t' b
  | 0, b, _, t', h, h' => by
    have : t' = 0 := by omega
    subst this
    exact h'
  | s + 1, b, h, t', ht, h' => by
    unfold dist at h
    cases e : dist W s b with
    | some t1 => rw [e] at h; cases h
    | none =>
      rw [e] at h
      simp only at h
      have hno := dist_none W s b e
      split at h
      · cases h
      · rename_i hc
        by_cases hs : t' ≤ s
        · exact hno t' hs h'
        · have : t' = s + 1 := by omega
          subst this
          apply hc
          rw [Bool.or_eq_true]
          rcases h' with ⟨_, h4⟩ | ⟨w, hw, h5⟩
          · exact .inl (by simp [h4])
          · refine .inr (List.any_eq_true.mpr ⟨w, hw, ?_⟩)
            have hd : dist W s w = some s := by
              cases ed : dist W s w with
              | none => exact absurd h5 (dist_none W s w ed s (Nat.le_refl _))
              | some u =>
                obtain ⟨u1, u2, u3⟩ := dist_le W s w u ed
                by_cases hu : u = s
                · rw [hu]
                · exact absurd (show ends W (u + 1) b from .inr ⟨w, hw, u2⟩) (hno (u + 1) (by omega))
            rw [hd]
            simp
theorem getD_set {l : List (Option Nat)} {i j : Nat} {v : Option Nat} (h : i < l.length) : (l.set i v).getD j none = if j = i then v else l.getD j none := by
  rw [List.getD_eq_getElem?_getD, List.getD_eq_getElem?_getD, List.getElem?_set]
  by_cases e : i = j
  · subst e
    rw [if_pos rfl, if_pos h, if_pos rfl]
    rfl
  · rw [if_neg e, if_neg (fun z => e z.symm)]
theorem dist_sb (W : Nat → List Nat) (s w : Nat) : (dist W (s + 1) w == some s) = (dist W s w == some s) := by
  show ((match dist W s w with | some t => some t | none => if ((W w).isEmpty || (W w).any fun w => dist W s w == some s) = true then some (s + 1) else none) == some s) = _
  cases e : dist W s w with
  | some t => rfl
  | none =>
    simp only
    split
    · have : (some (s + 1) == some s) = false := by
        rw [beq_eq_false_iff_ne]
        intro z
        have := Option.some.inj z
        omega
      rw [this]
      rfl
    · rfl
theorem frnd_go (W : Nat → List Nat) (n s : Nat) (hw : ∀ b w, w ∈ W b → w < n) : ∀ (m : Nat) (told : List (Option Nat)), told.length = n → (∀ b, b < n → told.getD b none = dist W s b) → m ≤ n →
    ((List.range m).foldl (fst1 W s) told).length = n ∧ ∀ b, b < n → ((List.range m).foldl (fst1 W s) told).getD b none = if b < m then dist W (s + 1) b else dist W s b
  | 0, told, hl, h, _ => ⟨hl, fun b hb => by rw [if_neg (Nat.not_lt_zero _)]; exact h b hb⟩
  | m + 1, told, hl, h, hm => by
    obtain ⟨h1, h2⟩ := frnd_go W n s hw m told hl h (by omega)
    rw [List.range_succ, List.foldl_append, List.foldl_cons, List.foldl_nil]
    generalize (List.range m).foldl (fst1 W s) told = T at h1 h2
    have hT : ∀ w, w < n → (T.getD w none == some s) = (dist W s w == some s) := by
      intro w hwn
      rw [h2 w hwn]
      split
      · exact dist_sb W s w
      · rfl
    have hcond : fc W s T m = ((dist W s m).isNone && ((W m).isEmpty || (W m).any fun w => dist W s w == some s)) := by
      unfold fc
      rw [h2 m (by omega), if_neg (by omega)]
      have : ((W m).any fun w => T.getD w none == some s) = ((W m).any fun w => dist W s w == some s) := by
        rw [Bool.eq_iff_iff, List.any_eq_true, List.any_eq_true]
        constructor
        · rintro ⟨w, a, b⟩; exact ⟨w, a, by rw [← hT w (hw m w a)]; exact b⟩
        · rintro ⟨w, a, b⟩; exact ⟨w, a, by rw [hT w (hw m w a)]; exact b⟩
      rw [this]
    have hd : dist W (s + 1) m = if fc W s T m = true then some (s + 1) else dist W s m := by
      rw [hcond]
      show (match dist W s m with | some t => some t | none => if ((W m).isEmpty || (W m).any fun w => dist W s w == some s) = true then some (s + 1) else none) = _
      cases dist W s m with
      | some t => rfl
      | none => simp only [Option.isNone_none, Bool.true_and]
    refine ⟨by unfold fst1; split <;> simp [h1], fun b hb => ?_⟩
    have hg : (fst1 W s T m).getD b none = if b = m then dist W (s + 1) m else T.getD b none := by
      unfold fst1
      rw [hd]
      split
      · rw [getD_set (by omega)]
      · by_cases e : b = m
        · subst e
          rw [if_pos rfl, h2 b hb, if_neg (by omega)]
        · rw [if_neg e]
    rw [hg]
    by_cases e : b = m
    · subst e
      rw [if_pos rfl, if_pos (by omega)]
    · rw [if_neg e, h2 b hb]
      by_cases hlt : b < m
      · rw [if_pos hlt, if_pos (by omega)]
      · rw [if_neg hlt, if_neg (by omega)]
theorem fewest_go (W : Nat → List Nat) (n : Nat) (hw : ∀ b w, w ∈ W b → w < n) : ∀ (m : Nat),
    ((List.range m).foldl (frnd W n) (List.replicate n none)).length = n ∧ ∀ b, b < n → ((List.range m).foldl (frnd W n) (List.replicate n none)).getD b none = dist W m b
  | 0 => ⟨by simp, fun b hb => by
      rw [List.range_zero, List.foldl_nil, List.getD_eq_getElem?_getD, List.getElem?_replicate]
      split <;> rfl⟩
  | m + 1 => by
    obtain ⟨h1, h2⟩ := fewest_go W n hw m
    rw [List.range_succ, List.foldl_append, List.foldl_cons, List.foldl_nil]
    obtain ⟨h3, h4⟩ := frnd_go W n m hw n _ h1 h2 (Nat.le_refl _)
    exact ⟨h3, fun b hb => by
      have := h4 b hb
      rw [if_pos hb] at this
      exact this⟩
theorem fewest_at (W : Nat → List Nat) (n : Nat) (hn : 0 < n) (hw : ∀ b w, w ∈ W b → w < n) : (fewest W n)[0]? = some (dist W n 0) := by
  obtain ⟨h1, h2⟩ := fewest_go W n hw n
  have := h2 0 hn
  unfold fewest
  rw [List.getD_eq_getElem?_getD, List.getElem?_eq_getElem (by omega)] at this
  rw [List.getElem?_eq_getElem (by omega)]
  exact congrArg some this
/-! min and max of plain lists -/
theorem foldl_min_spec : ∀ (l : List Nat) (a : Nat), (l.foldl min a = a ∨ l.foldl min a ∈ l) ∧ l.foldl min a ≤ a ∧ ∀ x ∈ l, l.foldl min a ≤ x
  | [], a => ⟨.inl rfl, Nat.le_refl _, fun x h => (List.not_mem_nil h).elim⟩
  | y :: l, a => by
    obtain ⟨h1, h2, h3⟩ := foldl_min_spec l (min a y)
    rw [List.foldl_cons]
    refine ⟨?_, by omega, fun x hx => ?_⟩
    · rcases h1 with h1 | h1
      · rw [h1]
        by_cases e : a ≤ y
        · exact .inl (by omega)
        · exact .inr (by rw [show min a y = y by omega]; simp)
      · exact .inr (List.mem_cons_of_mem _ h1)
    · rcases List.mem_cons.mp hx with rfl | hx
      · omega
      · exact h3 x hx
theorem foldl_max_spec : ∀ (l : List Nat) (a : Nat), (l.foldl max a = a ∨ l.foldl max a ∈ l) ∧ a ≤ l.foldl max a ∧ ∀ x ∈ l, x ≤ l.foldl max a
  | [], a => ⟨.inl rfl, Nat.le_refl _, fun x h => (List.not_mem_nil h).elim⟩
  | y :: l, a => by
    obtain ⟨h1, h2, h3⟩ := foldl_max_spec l (max a y)
    rw [List.foldl_cons]
    refine ⟨?_, by omega, fun x hx => ?_⟩
    · rcases h1 with h1 | h1
      · rw [h1]
        by_cases e : y ≤ a
        · exact .inl (by omega)
        · exact .inr (by rw [show max a y = y by omega]; simp)
      · exact .inr (List.mem_cons_of_mem _ h1)
    · rcases List.mem_cons.mp hx with rfl | hx
      · omega
      · exact h3 x hx
/-- what min and max say of a list that is not empty -/
def minL : List Nat → Nat
  | [] => 0
  | a :: l => l.foldl min a
def maxL : List Nat → Nat
  | [] => 0
  | a :: l => l.foldl max a
theorem minL_eq {l : List Nat} {m : Nat} (h : m ∈ l) (h2 : ∀ x ∈ l, m ≤ x) : minL l = m := by
  cases l with
  | nil => exact (List.not_mem_nil h).elim
  | cons a l =>
    obtain ⟨h3, h4, h5⟩ := foldl_min_spec l a
    show l.foldl min a = m
    have h6 : m ≤ l.foldl min a := by
      rcases h3 with h3 | h3
      · rw [h3]; exact h2 a (by simp)
      · exact h2 _ (List.mem_cons_of_mem _ h3)
    rcases List.mem_cons.mp h with rfl | h
    · omega
    · have := h5 m h; omega
theorem maxL_eq {l : List Nat} {m : Nat} (h : m ∈ l) (h2 : ∀ x ∈ l, x ≤ m) : maxL l = m := by
  cases l with
  | nil => exact (List.not_mem_nil h).elim
  | cons a l =>
    obtain ⟨h3, h4, h5⟩ := foldl_max_spec l a
    show l.foldl max a = m
    have h6 : l.foldl max a ≤ m := by
      rcases h3 with h3 | h3
      · rw [h3]; exact h2 a (by simp)
      · exact h2 _ (List.mem_cons_of_mem _ h3)
    rcases List.mem_cons.mp h with rfl | h
    · omega
    · have := h5 m h; omega
theorem least_law (W : Nat → List Nat) (n : Nat) : dist W n 0 = if 0 < (ts W n 0 0).length then some (minL (ts W n 0 0)) else none := by
  cases e : dist W n 0 with
  | none =>
    have : ts W n 0 0 = [] := by
      cases h : ts W n 0 0 with
      | nil => rfl
      | cons a l =>
        obtain ⟨s, h1, h2, _⟩ := (mem_ts W n 0 0 a).mp (by rw [h]; simp)
        exact absurd h2 (dist_le.dist_none W n 0 e s h1)
    rw [this]
    rfl
  | some t =>
    obtain ⟨h1, h2, h3⟩ := dist_le W n 0 t e
    have hm : t ∈ ts W n 0 0 := (mem_ts W n 0 0 t).mpr ⟨t, h1, h2, by omega⟩
    rw [if_pos (List.length_pos_of_mem hm), minL_eq hm]
    intro x hx
    obtain ⟨s, _, h5, h6⟩ := (mem_ts W n 0 0 x).mp hx
    by_cases hlt : s < t
    · exact absurd h5 (h3 s hlt)
    · omega
/-! greatest -/
def ht (W : Nat → List Nat) : Nat → Nat → Option Nat
  | 0, _ => none
  | r + 1, b => if ((W b).any fun w => (ht W r w).isNone) = true then none else some (1 + ((W b).map fun w => (ht W r w).getD 0).foldl max 0)
theorem ht_all {W : Nat → List Nat} {r b h : Nat} (e : ht W (r + 1) b = some h) : (∀ w ∈ W b, ∃ hw, ht W r w = some hw ∧ hw < h) ∧ 1 ≤ h ∧ (h = 1 ∨ ∃ w ∈ W b, ht W r w = some (h - 1)) := by
  unfold ht at e
  split at e
  · cases e
  · rename_i hc
    have hs : ∀ w ∈ W b, ∃ hw, ht W r w = some hw := by
      intro w hw
      cases ew : ht W r w with
      | some x => exact ⟨x, rfl⟩
      | none => exact absurd (List.any_eq_true.mpr ⟨w, hw, by rw [ew]; rfl⟩) hc
    obtain ⟨h1, _, h3⟩ := foldl_max_spec ((W b).map fun w => (ht W r w).getD 0) 0
    have eh := Option.some.inj e
    refine ⟨fun w hw => ?_, by omega, ?_⟩
    · obtain ⟨x, hx⟩ := hs w hw
      have := h3 _ (List.mem_map.mpr ⟨w, hw, rfl⟩)
      rw [hx] at this
      exact ⟨x, hx, by simp only [Option.getD_some] at this; omega⟩
    · rcases h1 with h1 | h1
      · exact .inl (by omega)
      · obtain ⟨w, hw, e2⟩ := List.mem_map.mp h1
        obtain ⟨x, hx⟩ := hs w hw
        rw [hx] at e2
        simp only [Option.getD_some] at e2
        exact .inr ⟨w, hw, by rw [hx]; congr 1; omega⟩
theorem gof_some {W : Nat → List Nat} {told : List (Option Nat)} {b : Nat} {f : Nat → Option Nat} (h : ∀ w ∈ W b, ∃ x, f w = some x ∧ told.getD w none = some x) :
    gof W told b = (if ((W b).any fun w => (f w).isNone) = true then none else some (1 + ((W b).map fun w => (f w).getD 0).foldl max 0)) := by
  unfold gof
  have h1 : ((W b).any fun w => (told.getD w none).isNone) = ((W b).any fun w => (f w).isNone) := by
    rw [Bool.eq_iff_iff, List.any_eq_true, List.any_eq_true]
    constructor
    · rintro ⟨w, a, c⟩; obtain ⟨x, h1, h2⟩ := h w a; rw [h2] at c; cases c
    · rintro ⟨w, a, c⟩; obtain ⟨x, h1, h2⟩ := h w a; rw [h1] at c; cases c
  have h2 : ((W b).map fun w => (told.getD w none).getD 0) = ((W b).map fun w => (f w).getD 0) :=
    List.map_congr_left fun w hw => by
      obtain ⟨x, h1, h2⟩ := h w hw
      rw [h1, h2]
  rw [h1, h2]
theorem ht_mono {W : Nat → List Nat} : ∀ {r b h : Nat}, ht W r b = some h → ht W (r + 1) b = some h
  | 0, b, h, e => by cases e
  | r + 1, b, h, e => by
    have hs := (ht_all e).1
    rw [← e]
    show (if ((W b).any fun w => (ht W (r + 1) w).isNone) = true then none else some (1 + ((W b).map fun w => (ht W (r + 1) w).getD 0).foldl max 0)) = (if ((W b).any fun w => (ht W r w).isNone) = true then none else some (1 + ((W b).map fun w => (ht W r w).getD 0).foldl max 0))
    have h1 : ((W b).any fun w => (ht W (r + 1) w).isNone) = ((W b).any fun w => (ht W r w).isNone) := by
      rw [Bool.eq_iff_iff, List.any_eq_true, List.any_eq_true]
      constructor
      · rintro ⟨w, a, c⟩; obtain ⟨x, h1, _⟩ := hs w a; rw [ht_mono h1] at c; cases c
      · rintro ⟨w, a, c⟩; obtain ⟨x, h1, _⟩ := hs w a; rw [h1] at c; cases c
    have h2 : ((W b).map fun w => (ht W (r + 1) w).getD 0) = ((W b).map fun w => (ht W r w).getD 0) :=
      List.map_congr_left fun w hw => by
        obtain ⟨x, h1, _⟩ := hs w hw
        rw [h1, ht_mono h1]
    rw [h1, h2]
theorem ht_le {W : Nat → List Nat} {r b h : Nat} (e : ht W r b = some h) : ∀ {r' : Nat}, r ≤ r' → ht W r' b = some h := by
  intro r' hr
  induction r' with
  | zero => rw [show r = 0 by omega] at e; exact e
  | succ k ih =>
    by_cases hk : r = k + 1
    · rw [← hk]; exact e
    · exact ht_mono (ih (by omega))
theorem ht_own {W : Nat → List Nat} : ∀ {r b h : Nat}, ht W r b = some h → ht W h b = some h
  | 0, b, h, e => by cases e
  | r + 1, b, h, e => by
    obtain ⟨hs, h1, _⟩ := ht_all e
    obtain ⟨k, rfl⟩ : ∃ k, h = k + 1 := ⟨h - 1, by omega⟩
    rw [← e]
    show (if ((W b).any fun w => (ht W k w).isNone) = true then none else some (1 + ((W b).map fun w => (ht W k w).getD 0).foldl max 0)) = (if ((W b).any fun w => (ht W r w).isNone) = true then none else some (1 + ((W b).map fun w => (ht W r w).getD 0).foldl max 0))
    have hk : ∀ w ∈ W b, ∃ x, ht W r w = some x ∧ ht W k w = some x := fun w hw => by
      obtain ⟨x, h2, h3⟩ := hs w hw
      exact ⟨x, h2, ht_le (ht_own h2) (by omega)⟩
    have h1 : ((W b).any fun w => (ht W k w).isNone) = ((W b).any fun w => (ht W r w).isNone) := by
      rw [Bool.eq_iff_iff, List.any_eq_true, List.any_eq_true]
      constructor
      · rintro ⟨w, a, c⟩; obtain ⟨x, h1, h2⟩ := hk w a; rw [h2] at c; cases c
      · rintro ⟨w, a, c⟩; obtain ⟨x, h1, h2⟩ := hk w a; rw [h1] at c; cases c
    have h2 : ((W b).map fun w => (ht W k w).getD 0) = ((W b).map fun w => (ht W r w).getD 0) :=
      List.map_congr_left fun w hw => by
        obtain ⟨x, h1, h2⟩ := hk w hw
        rw [h1, h2]
    rw [h1, h2]
theorem ht_fun {W : Nat → List Nat} {r r' b h h' : Nat} (e : ht W r b = some h) (e' : ht W r' b = some h') : h = h' := by
  have h1 := ht_le e (Nat.le_max_left r r')
  have h2 := ht_le e' (Nat.le_max_right r r')
  rw [h1] at h2
  exact Option.some.inj h2
theorem nodup_sub : ∀ (l m : List Nat), l.Nodup → (∀ x ∈ l, x ∈ m) → l.length ≤ m.length
  | [], m, _, _ => Nat.zero_le _
  | a :: l, m, nd, h => by
    have nd' := List.nodup_cons.mp nd
    have ha : a ∈ m := h a (by simp)
    have h1 : l.length ≤ (m.erase a).length := nodup_sub l (m.erase a) nd'.2 fun x hx => (List.mem_erase_of_ne (fun e => nd'.1 (by rw [← e]; exact hx))).mpr (h x (by simp [hx]))
    rw [List.length_erase_of_mem ha] at h1
    have := List.length_pos_of_mem ha
    rw [List.length_cons]
    omega
theorem ht_chain {W : Nat → List Nat} {bl : List Nat} (cl : ∀ b w, b ∈ bl → w ∈ W b → w ∈ bl) : ∀ (h r b : Nat), ht W r b = some h → b ∈ bl →
    ∃ l : List Nat, l.length = h ∧ l.Nodup ∧ ∀ x ∈ l, x ∈ bl ∧ ∃ r' h', h' ≤ h ∧ ht W r' x = some h'
  | 0, r, b, _, _ => ⟨[], rfl, List.nodup_nil, fun x h => (List.not_mem_nil h).elim⟩
  | h + 1, 0, b, e, _ => by cases e
  | h + 1, r + 1, b, e, hb => by
    obtain ⟨_, _, h3⟩ := ht_all e
    rcases h3 with h3 | ⟨w, hw, h4⟩
    · have : h = 0 := by omega
      subst this
      exact ⟨[b], rfl, by simp, fun x hx => by
        have : x = b := by simpa using hx
        subst this
        exact ⟨hb, r + 1, 1, by omega, e⟩⟩
    · obtain ⟨l, l1, l2, l3⟩ := ht_chain cl h r w h4 (cl b w hb hw)
      refine ⟨b :: l, by rw [List.length_cons, l1], List.nodup_cons.mpr ⟨fun hm => ?_, l2⟩, fun x hx => ?_⟩
      · obtain ⟨_, r', h', h5, h6⟩ := l3 b hm
        have := ht_fun e h6
        omega
      · rcases List.mem_cons.mp hx with rfl | hx
        · exact ⟨hb, r + 1, h + 1, Nat.le_refl _, e⟩
        · obtain ⟨x1, r', h', h5, h6⟩ := l3 x hx
          exact ⟨x1, r', h', by omega, h6⟩
/-- what holds of the table -/
structure Gt (W : Nat → List Nat) (n : Nat) (bl : List Nat) (m : Nat) (told : List (Option Nat)) : Prop where
  len : told.length = n
  so : ∀ b h, told.getD b none = some h → ∃ r, ht W r b = some h
  all : ∀ b h, b ∈ bl → ht W m b = some h → told.getD b none = some h
theorem gof_sound {W : Nat → List Nat} {told : List (Option Nat)} (so : ∀ b h, told.getD b none = some h → ∃ r, ht W r b = some h) {b h : Nat} (e : gof W told b = some h) : ∃ r, ht W r b = some h := by
  have hs : ∀ w ∈ W b, ∃ x, told.getD w none = some x := by
    intro w hw
    cases ew : told.getD w none with
    | some x => exact ⟨x, rfl⟩
    | none =>
      unfold gof at e
      rw [if_pos (List.any_eq_true.mpr ⟨w, hw, by rw [ew]; rfl⟩)] at e
      cases e
  have hr : ∀ (l : List Nat), (∀ w ∈ l, ∃ x, told.getD w none = some x) → ∃ r, ∀ w ∈ l, ht W r w = told.getD w none := by
    intro l
    induction l with
    | nil => intro _; exact ⟨0, fun w h => (List.not_mem_nil h).elim⟩
    | cons a l ih =>
      intro h
      obtain ⟨r, hr⟩ := ih fun w hw => h w (List.mem_cons_of_mem _ hw)
      obtain ⟨x, hx⟩ := h a (by simp)
      obtain ⟨r', hr'⟩ := so a x hx
      refine ⟨max r r', fun w hw => ?_⟩
      rcases List.mem_cons.mp hw with rfl | hw
      · rw [hx]; exact ht_le hr' (Nat.le_max_right _ _)
      · obtain ⟨y, hy⟩ := h w (List.mem_cons_of_mem _ hw)
        have := hr w hw
        rw [hy] at this ⊢
        exact ht_le this (Nat.le_max_left _ _)
  obtain ⟨r, hr⟩ := hr (W b) hs
  refine ⟨r + 1, ?_⟩
  rw [← e, gof_some (f := ht W r) fun w hw => by
    obtain ⟨x, hx⟩ := hs w hw
    exact ⟨x, by rw [hr w hw]; exact hx, hx⟩]
  rfl
theorem gof_full {W : Nat → List Nat} {told : List (Option Nat)} {m b h : Nat} (e : ht W (m + 1) b = some h) (hw : ∀ w h, w ∈ W b → ht W m w = some h → told.getD w none = some h) : gof W told b = some h := by
  rw [← e, gof_some (f := ht W m) fun w h1 => by
    obtain ⟨x, hx, _⟩ := (ht_all e).1 w h1
    exact ⟨x, hx, hw w x h1 hx⟩]
  rfl
theorem grnd_go {W : Nat → List Nat} {n : Nat} {bl : List Nat} (lt : ∀ b ∈ bl, b < n) (cl : ∀ b w, b ∈ bl → w ∈ W b → w ∈ bl) {m : Nat} : ∀ (xs done : List Nat) (told : List (Option Nat)), (∀ x ∈ xs, x ∈ bl) → Gt W n bl m told →
    (∀ b h, b ∈ done → ht W (m + 1) b = some h → told.getD b none = some h) → (∀ b ∈ done, b ∈ bl) →
    Gt W n bl m (xs.foldl (gstep W) told) ∧ ∀ b h, b ∈ done ++ xs → ht W (m + 1) b = some h → (xs.foldl (gstep W) told).getD b none = some h
  | [], done, told, _, G, hd, _ => ⟨G, by rw [List.append_nil]; exact hd⟩
  | a :: xs, done, told, hx, G, hd, hdb => by
    have ha : a ∈ bl := hx a (by simp)
    have hal : a < told.length := by rw [G.len]; exact lt a ha
    have hget : ∀ b, (gstep W told a).getD b none = if b = a then gof W told a else told.getD b none := fun b => getD_set hal
    have hfull : ∀ h, ht W (m + 1) a = some h → gof W told a = some h := fun h e => gof_full e fun w h' hw e' => G.all w h' (cl a w ha hw) e'
    have G' : Gt W n bl m (gstep W told a) := by
      refine ⟨by unfold gstep; rw [List.length_set]; exact G.len, fun b h e => ?_, fun b h hb e => ?_⟩
      · rw [hget] at e
        split at e
        · rename_i eb; subst eb; exact gof_sound G.so e
        · exact G.so b h e
      · rw [hget]
        split
        · rename_i eb; subst eb; exact hfull h (ht_mono e)
        · exact G.all b h hb e
    have := grnd_go lt cl xs (done ++ [a]) (gstep W told a) (fun x h => hx x (List.mem_cons_of_mem _ h)) G' (fun b h hb e => by
      rw [hget]
      split
      · rename_i eb; subst eb; exact hfull h e
      · rename_i eb
        rcases List.mem_append.mp hb with hb | hb
        · exact hd b h hb e
        · exact absurd (by simpa using hb) eb) (fun b hb => by
      rcases List.mem_append.mp hb with hb | hb
      · exact hdb b hb
      · have : b = a := by simpa using hb
        rw [this]; exact ha)
    rw [List.append_assoc] at this
    exact this
theorem grt_go {W : Nat → List Nat} {n : Nat} {bl : List Nat} (lt : ∀ b ∈ bl, b < n) (cl : ∀ b w, b ∈ bl → w ∈ W b → w ∈ bl) : ∀ (xs : List Nat) (m : Nat) (told : List (Option Nat)), Gt W n bl m told → Gt W n bl (m + xs.length) (xs.foldl (fun t _ => grnd W bl t) told)
  | [], m, told, G => G
  | a :: xs, m, told, G => by
    obtain ⟨h1, h2⟩ := grnd_go lt cl bl [] told (fun x h => h) G (fun b h hb => (List.not_mem_nil hb).elim) (fun b hb => (List.not_mem_nil hb).elim)
    have := grt_go lt cl xs (m + 1) (grnd W bl told) ⟨h1.len, h1.so, fun b h hb e => h2 b h (by simpa using hb) e⟩
    rw [List.length_cons, show m + (xs.length + 1) = m + 1 + xs.length by omega]
    exact this
theorem grt_at {W : Nat → List Nat} {n : Nat} {bl : List Nat} (z : 0 ∈ bl) (nd : bl.Nodup) (lt : ∀ b ∈ bl, b < n) (cl : ∀ b w, b ∈ bl → w ∈ W b → w ∈ bl) : (grt W n bl)[0]? = some (ht W n 0) := by
  have hn : 0 < n := lt 0 z
  have G0 : Gt W n bl 0 (List.replicate n none) := ⟨by simp, (fun b h e => by
    rw [List.getD_eq_getElem?_getD, List.getElem?_replicate] at e
    split at e <;> cases e), (fun b h _ e => by cases e)⟩
  have G := grt_go lt cl bl 0 _ G0
  have G : Gt W n bl bl.length (grt W n bl) := by rw [Nat.zero_add] at G; exact G
  have hlen := nd_len n bl nd lt
  have : (grt W n bl).getD 0 none = ht W n 0 := by
    cases e : ht W n 0 with
    | some h =>
      refine G.all 0 h z (ht_le (ht_own e) ?_)
      obtain ⟨l, l1, l2, l3⟩ := ht_chain cl h n 0 e z
      rw [← l1]
      exact nodup_sub l bl l2 fun x hx => (l3 x hx).1
    | none =>
      cases e2 : (grt W n bl).getD 0 none with
      | none => rfl
      | some h =>
        obtain ⟨r, hr⟩ := G.so 0 h e2
        obtain ⟨l, l1, l2, l3⟩ := ht_chain cl h r 0 hr z
        have h1 : h ≤ bl.length := by rw [← l1]; exact nodup_sub l bl l2 fun x hx => (l3 x hx).1
        rw [ht_le (ht_own hr) (show h ≤ n by omega)] at e
        cases e
  rw [List.getD_eq_getElem?_getD, List.getElem?_eq_getElem (by rw [G.len]; exact hn)] at this
  rw [List.getElem?_eq_getElem (by rw [G.len]; exact hn)]
  exact congrArg some this
/-- a way of k more blocks -/
def pth (W : Nat → List Nat) : Nat → Nat → Prop
  | 0, _ => True
  | k + 1, b => ∃ w ∈ W b, pth W k w
theorem ht_pth (W : Nat → List Nat) : ∀ (r b : Nat), ht W r b = none ↔ pth W r b
  | 0, b => ⟨fun _ => trivial, fun _ => rfl⟩
  | r + 1, b => by
    show (if ((W b).any fun w => (ht W r w).isNone) = true then none else some (1 + ((W b).map fun w => (ht W r w).getD 0).foldl max 0)) = none ↔ _
    constructor
    · intro h
      split at h
      · rename_i hc
        obtain ⟨w, hw, e⟩ := List.any_eq_true.mp hc
        exact ⟨w, hw, (ht_pth W r w).mp (Option.isNone_iff_eq_none.mp e)⟩
      · cases h
    · rintro ⟨w, hw, h⟩
      rw [if_pos (List.any_eq_true.mpr ⟨w, hw, by rw [(ht_pth W r w).mpr h]; rfl⟩)]
theorem ht_ts (W : Nat → List Nat) : ∀ (r b k h : Nat), ht W r b = some h → k + h ∈ ts W r b k ∧ ∀ x ∈ ts W r b k, x ≤ k + h
  | 0, b, k, h, e => by cases e
  | r + 1, b, k, h, e => by
    obtain ⟨h1, h2, h3⟩ := ht_all e
    unfold ts
    by_cases hb : W b = []
    · rw [if_pos (by simp [hb])]
      have : h = 1 := by
        rcases h3 with h3 | ⟨w, hw, _⟩
        · exact h3
        · rw [hb] at hw; exact (List.not_mem_nil hw).elim
      subst this
      simp
    · rw [if_neg (by simpa using hb)]
      constructor
      · rcases h3 with h3 | ⟨w, hw, e2⟩
        · cases hW : W b with
          | nil => exact absurd hW hb
          | cons w l =>
            obtain ⟨x, hx, hlt⟩ := h1 w (by rw [hW]; simp)
            cases r with
            | zero => cases hx
            | succ r =>
              have := (ht_all hx).2.1
              omega
        · have := (ht_ts W r w (k + 1) (h - 1) e2).1
          rw [show k + 1 + (h - 1) = k + h by omega] at this
          exact List.mem_flatMap.mpr ⟨w, List.mem_reverse.mpr hw, this⟩
      · intro x hx
        obtain ⟨w, hw, hx⟩ := List.mem_flatMap.mp hx
        obtain ⟨y, hy, hlt⟩ := h1 w (List.mem_reverse.mp hw)
        have := (ht_ts W r w (k + 1) y hy).2 x hx
        omega
theorem greatest_law (W : Nat → List Nat) (n : Nat) [Decidable (pth W n 0)] : ht W n 0 = if pth W n 0 then none else some (maxL (ts W n 0 0)) := by
  cases e : ht W n 0 with
  | none => rw [if_pos ((ht_pth W n 0).mp e)]
  | some h =>
    rw [if_neg fun hp => by rw [(ht_pth W n 0).mpr hp] at e; cases e]
    obtain ⟨h1, h2⟩ := ht_ts W n 0 0 h e
    rw [Nat.zero_add] at h1 h2
    rw [maxL_eq h1 h2]
theorem ht_ne (W : Nat → List Nat) (n : Nat) (h : ¬ pth W n 0) : ts W n 0 0 ≠ [] := by
  cases e : ht W n 0 with
  | none => exact absurd ((ht_pth W n 0).mp e) h
  | some k =>
    intro z
    have := (ht_ts W n 0 0 k e).1
    rw [z] at this
    exact (List.not_mem_nil this)
/-! counts -/
def dot (g : Nat → Nat) : List Nat → Nat → Nat
  | [], _ => 0
  | c :: cs, i => c * g i + dot g cs (i + 1)
theorem dot_zero (g : Nat → Nat) : ∀ (n i : Nat), dot g (List.replicate n 0) i = 0
  | 0, i => rfl
  | n + 1, i => by
    rw [List.replicate_succ]
    show 0 * g i + dot g (List.replicate n 0) (i + 1) = 0
    rw [dot_zero g n, Nat.zero_mul]
theorem dot_set (g : Nat → Nat) : ∀ (l : List Nat) (i w c : Nat), w < l.length → dot g (l.set w (l.getD w 0 + c)) i = dot g l i + c * g (i + w)
  | [], i, w, c, h => absurd h (Nat.not_lt_zero _)
  | x :: l, i, 0, c, h => by
    show (x + c) * g i + dot g l (i + 1) = x * g i + dot g l (i + 1) + c * g (i + 0)
    rw [Nat.add_mul, Nat.add_zero i]
    omega
  | x :: l, i, w + 1, c, h => by
    have := dot_set g l (i + 1) w c (by simpa using h)
    show x * g i + dot g (l.set w (l.getD w 0 + c)) (i + 1) = x * g i + dot g l (i + 1) + c * g (i + (w + 1))
    rw [this, show i + 1 + w = i + (w + 1) by omega]
    omega
theorem dot_all (g : Nat → Nat) (c : Nat) : ∀ (ws l : List Nat), (∀ w ∈ ws, w < l.length) → dot g (ws.foldl (addAt c) l) 0 = dot g l 0 + c * (ws.map g).sum
  | [], l, _ => by simp
  | w :: ws, l, h => by
    have hw := h w (by simp)
    rw [List.foldl_cons, dot_all g c ws (addAt c l w) (fun x hx => by rw [addAt_len]; exact h x (by simp [hx]))]
    unfold addAt
    rw [dot_set g l 0 w c hw, List.map_cons, List.sum_cons, Nat.mul_add, Nat.zero_add]
    omega
theorem dot_congr {g g' : Nat → Nat} (h : ∀ i, g i = g' i) (l : List Nat) (i : Nat) : dot g l i = dot g' l i := by
  rw [show g = g' from funext h]
theorem dot_split (g : Nat → Nat) : ∀ (l : List Nat) (i : Nat), dot g l i = ((List.range l.length).map fun k => l.getD k 0 * g (i + k)).sum
  | [], i => rfl
  | x :: l, i => by
    rw [List.length_cons, List.range_succ_eq_map, List.map_cons, List.sum_cons, List.map_map]
    show x * g i + dot g l (i + 1) = x * g (i + 0) + _
    rw [dot_split g l (i + 1)]
    congr 2
    refine List.map_congr_left fun k _ => ?_
    show l.getD k 0 * g (i + 1 + k) = (x :: l).getD (k + 1) 0 * g (i + (k + 1))
    rw [show i + 1 + k = i + (k + 1) by omega]
    rfl
def nw (W : Nat → List Nat) (b : Nat) : Nat := if (W b).isEmpty then 1 else 0
def sw (W : Nat → List Nat) (g : Nat → Nat) (b : Nat) : Nat := ((W b).map g).sum
theorem cb_go (W : Nat → List Nat) (n : Nat) (hw : ∀ b w, w ∈ W b → w < n) (cs : List Nat) (g : Nat → Nat) : ∀ (m : Nat), m ≤ n →
    ((List.range m).foldl (cb1 W cs) (List.replicate n 0, 0)).1.length = n ∧
    dot g ((List.range m).foldl (cb1 W cs) (List.replicate n 0, 0)).1 0 = ((List.range m).map fun k => cs.getD k 0 * sw W g k).sum ∧
    ((List.range m).foldl (cb1 W cs) (List.replicate n 0, 0)).2 = ((List.range m).map fun k => cs.getD k 0 * nw W k).sum
  | 0, _ => ⟨by simp, by simpa using dot_zero g n 0, rfl⟩
  | m + 1, hm => by
    obtain ⟨h1, h2, h3⟩ := cb_go W n hw cs g m (by omega)
    rw [List.range_succ, List.foldl_append, List.foldl_cons, List.foldl_nil, List.map_append, List.map_append, List.sum_append, List.sum_append]
    generalize (List.range m).foldl (cb1 W cs) (List.replicate n 0, 0) = T at h1 h2 h3
    unfold cb1
    refine ⟨by rw [addAll_len]; exact h1, ?_, ?_⟩
    · show dot g ((W m).foldl (addAt (cs.getD m 0)) T.1) 0 = _
      rw [dot_all g _ _ _ (fun w h => by rw [h1]; exact hw m w h), h2]
      simp [sw]
    · show T.2 + (if (W m).isEmpty then cs.getD m 0 else 0) = _
      have e : ∀ (b : Bool) (x : Nat), (if b = true then x else 0) = x * (if b = true then 1 else 0) := by
        intro b x
        cases b <;> simp
      rw [h3, e, List.map_cons, List.map_nil, List.sum_cons, List.sum_nil]
      rfl
theorem cb_len (W : Nat → List Nat) (n : Nat) (hw : ∀ b w, w ∈ W b → w < n) (cs : List Nat) : (cb W n cs).1.length = n := (cb_go W n hw cs (fun _ => 0) n (Nat.le_refl _)).1
theorem cb_dot (W : Nat → List Nat) (n : Nat) (hw : ∀ b w, w ∈ W b → w < n) (cs : List Nat) (hc : cs.length = n) (g : Nat → Nat) : dot g (cb W n cs).1 0 = dot (sw W g) cs 0 := by
  have := (cb_go W n hw cs g n (Nat.le_refl _)).2.1
  rw [dot_split (sw W g) cs 0, hc]
  simp only [Nat.zero_add]
  exact this
theorem cb_end (W : Nat → List Nat) (n : Nat) (hw : ∀ b w, w ∈ W b → w < n) (cs : List Nat) (hc : cs.length = n) : (cb W n cs).2 = dot (nw W) cs 0 := by
  have := (cb_go W n hw cs (fun _ => 0) n (Nat.le_refl _)).2.2
  rw [dot_split (nw W) cs 0, hc]
  simp only [Nat.zero_add]
  exact this
theorem dot_add (g g' : Nat → Nat) : ∀ (l : List Nat) (i : Nat), dot (fun b => g b + g' b) l i = dot g l i + dot g' l i
  | [], i => rfl
  | x :: l, i => by
    show x * (g i + g' i) + dot _ l (i + 1) = (x * g i + dot g l (i + 1)) + (x * g' i + dot g' l (i + 1))
    rw [dot_add g g' l (i + 1), Nat.mul_add]
    omega
theorem dot_one (l : List Nat) : ∀ (i : Nat), dot (fun _ => 1) l i = l.sum := by
  induction l with
  | nil => intro i; rfl
  | cons x l ih =>
    intro i
    show x * 1 + dot (fun _ => 1) l (i + 1) = _
    rw [ih, List.sum_cons, Nat.mul_one]
/-- how many rows end within k blocks, and how many are open after k -/
def nE (W : Nat → List Nat) : Nat → Nat → Nat
  | 0, _ => 0
  | k + 1, b => nw W b + sw W (nE W k) b
def nO (W : Nat → List Nat) : Nat → Nat → Nat
  | 0, _ => 1
  | k + 1, b => sw W (nO W k) b
theorem ca_go (W : Nat → List Nat) (n : Nat) (hw : ∀ b w, w ∈ W b → w < n) : ∀ (xs : List Nat) (f : Bool) (cs : List Nat) (e : Nat), cs.length = n →
    (xs.foldl (ca1 W n) (f, cs, e)).2.1.length = n ∧ (xs.foldl (ca1 W n) (f, cs, e)).2.2 = e + dot (nE W xs.length) cs 0 ∧ (xs.foldl (ca1 W n) (f, cs, e)).2.1.sum = dot (nO W xs.length) cs 0
  | [], f, cs, e, hc => by
    refine ⟨hc, ?_, ?_⟩
    · show e = e + dot (nE W 0) cs 0
      have : ∀ (l : List Nat) (i : Nat), dot (nE W 0) l i = 0 := by
        intro l
        induction l with
        | nil => intro i; rfl
        | cons x l ih => intro i; show x * 0 + dot (nE W 0) l (i + 1) = 0; rw [ih]; omega
      rw [this]
      rfl
    · show cs.sum = dot (fun b => nO W 0 b) cs 0
      rw [dot_congr (g := fun b => nO W 0 b) (g' := fun _ => 1) (fun i => rfl), dot_one]
  | a :: xs, f, cs, e, hc => by
    have h1 := cb_len W n hw cs
    obtain ⟨h2, h3, h4⟩ := ca_go W n hw xs false (cb W n cs).1 (e + (cb W n cs).2) h1
    rw [List.foldl_cons]
    refine ⟨h2, ?_, ?_⟩
    · show (xs.foldl (ca1 W n) (false, (cb W n cs).1, e + (cb W n cs).2)).2.2 = _
      rw [h3, cb_dot W n hw cs hc, cb_end W n hw cs hc, List.length_cons]
      rw [dot_congr (g := nE W (xs.length + 1)) (g' := fun b => nw W b + sw W (nE W xs.length) b) (fun i => rfl), dot_add]
      omega
    · show (xs.foldl (ca1 W n) (false, (cb W n cs).1, e + (cb W n cs).2)).2.1.sum = _
      rw [h4, cb_dot W n hw cs hc, List.length_cons]
      exact dot_congr (fun i => rfl) cs 0
theorem dot_unit (g : Nat → Nat) (n : Nat) (hn : 0 < n) : dot g ((List.replicate n 0).set 0 1) 0 = g 0 := by
  cases n with
  | zero => omega
  | succ n =>
    rw [List.replicate_succ]
    show 1 * g 0 + dot g (List.replicate n 0) 1 = g 0
    rw [dot_zero]
    omega
theorem ca_law (W : Nat → List Nat) (n k : Nat) (hn : 0 < n) (hw : ∀ b w, w ∈ W b → w < n) : (ca W n k).2.2 = nE W k 0 ∧ (ca W n k).2.1.sum = nO W k 0 := by
  obtain ⟨_, h2, h3⟩ := ca_go W n hw (List.range k) true ((List.replicate n 0).set 0 1) 0 (by simp)
  rw [List.length_range, dot_unit _ n hn] at h2 h3
  exact ⟨by unfold ca; omega, h3⟩
theorem ts_len (W : Nat → List Nat) : ∀ (r b k : Nat), (ts W r b k).length = nE W r b
  | 0, b, k => rfl
  | r + 1, b, k => by
    show (if (W b).isEmpty then [k + 1] else (W b).reverse.flatMap fun w => ts W r w (k + 1)).length = nw W b + sw W (nE W r) b
    by_cases h : W b = []
    · unfold nw sw
      rw [h]
      rfl
    · have h' : (W b).isEmpty = false := by simpa using h
      unfold nw sw
      rw [h']
      simp only [Bool.false_eq_true, if_false, Nat.zero_add]
      rw [List.length_flatMap, List.map_reverse, List.sum_reverse]
      congr 1
      exact List.map_congr_left fun w _ => ts_len W r w (k + 1)
/-- the front lists of the law -/
def iter {α : Type} (g : α → α) : Nat → α → α
  | 0, x => x
  | k + 1, x => iter g k (g x)
theorem iter_fold {α β : Type} (g : α → α) : ∀ (l : List β) (x : α), l.foldl (fun s _ => g s) x = iter g l.length x
  | [], x => rfl
  | a :: l, x => iter_fold g l (g x)
theorem front_len (W : Nat → List Nat) : ∀ (k : Nat) (s : List Nat), (iter (fun s => s.flatMap W) k s).length = (s.map (nO W k)).sum
  | 0, s => by
    show s.length = (s.map fun _ => 1).sum
    induction s with
    | nil => rfl
    | cons a s ih => rw [List.length_cons, List.map_cons, List.sum_cons, ← ih]; omega
  | k + 1, s => by
    show (iter (fun s => s.flatMap W) k (s.flatMap W)).length = _
    rw [front_len W k]
    induction s with
    | nil => rfl
    | cons a s ih =>
      rw [List.flatMap_cons, List.map_append, List.sum_append, ih, List.map_cons, List.sum_cons]
      rfl
/-- a front without twins -/
def rg1 (W : Nat → List Nat) (l : List Nat) (b : Nat) : List Nat := l ++ (W b).filter fun w => !decide (w ∈ l)
def rgs (W : Nat → List Nat) (s : List Nat) : List Nat := s.foldl (rg1 W) []
theorem rg1_mem (W : Nat → List Nat) : ∀ (s l : List Nat) (w : Nat), w ∈ s.foldl (rg1 W) l ↔ w ∈ l ∨ ∃ b ∈ s, w ∈ W b
  | [], l, w => by simp
  | a :: s, l, w => by
    rw [List.foldl_cons, rg1_mem W s]
    unfold rg1
    rw [List.mem_append, List.mem_filter]
    constructor
    · rintro ((h | ⟨h, _⟩) | ⟨b, hb, h⟩)
      · exact .inl h
      · exact .inr ⟨a, by simp, h⟩
      · exact .inr ⟨b, by simp [hb], h⟩
    · rintro (h | ⟨b, hb, h⟩)
      · exact .inl (.inl h)
      · rcases List.mem_cons.mp hb with rfl | hb
        · by_cases e : w ∈ l
          · exact .inl (.inl e)
          · exact .inl (.inr ⟨h, by simp [e]⟩)
        · exact .inr ⟨b, hb, h⟩
theorem rgs_ne (W : Nat → List Nat) : ∀ (k : Nat) (s : List Nat), iter (rgs W) k s ≠ [] ↔ ∃ b ∈ s, pth W k b
  | 0, s => by
    constructor
    · intro h
      obtain ⟨b, hb⟩ := List.exists_mem_of_ne_nil s h
      exact ⟨b, hb, trivial⟩
    · rintro ⟨b, hb, _⟩ h
      have h : s = [] := h
      rw [h] at hb
      exact List.not_mem_nil hb
  | k + 1, s => by
    show iter (rgs W) k (rgs W s) ≠ [] ↔ _
    rw [rgs_ne W k]
    constructor
    · rintro ⟨w, hw, h⟩
      rcases (rg1_mem W s [] w).mp hw with h0 | ⟨b, hb, h1⟩
      · exact (List.not_mem_nil h0).elim
      · exact ⟨b, hb, w, h1, h⟩
    · rintro ⟨b, hb, w, hw, h⟩
      exact ⟨w, (rg1_mem W s [] w).mpr (.inr ⟨b, hb, hw⟩), h⟩
end K50

set_option Elab.async false
set_option linter.all false
set_option maxRecDepth 100000
set_option maxHeartbeats 4000000
namespace K50
open PySem L2 DL
/-! ### _law_same -/
inductive Sm : Nat → D → Prop
  | b (n : Nat) (x : Bool) : Sm (n + 1) (.bool x)
  | i (n : Nat) (x : Int) : Sm (n + 1) (.int x)
  | s (n : Nat) (x : Str) : Sm (n + 1) (.str x)
  | e (n : Nat) : Sm (n + 1) .none
  | t (n : Nat) (ds : List D) (h : ∀ d ∈ ds, Sm n d) (hl : ds.length ≤ 1000) : Sm (n + 1) (.tuple ds)
theorem same_eq : ∀ (n : Nat) (d : D), Sm n d → f_Lsame n [.val d, .val d] = some (.val (.bool true), [none, none])
  | 0, d, h => by cases h
  | n + 1, d, h => by
    show runF 3 (b_Lsame (f_Lsame n)) [.val d, .val d] = _
    unfold b_Lsame
    cases h with
    | b _ x => simp only [q_var, q_var1, q_var2, q_mv, q_mv1, q_mv2, q_c, q_pr, q_bin, q_bin1, q_bin2, q_dv, q_do, q_tst, q_tst1, q_isN, q_isN0, q_isN1, q_isN2, q_isN3, q_isN4, q_isN5, q_and, q_and1, q_and2, q_or, q_or1, q_or2, q_not, q_not1, q_yes, q_andV, q_andV1, q_andV2, q_orV, q_orV1, q_orV2, q_notV, q_notV1, q_ifE, q_ifE1, q_ifE2, q_nil, q_cons, q_cons1, q_cons2, q_tup, q_tup1, q_lst, q_lst1, q_cb, q_cb1, q_lenV, q_lenV1, q_seq, q_seq1, q_sl, q_st, q_so, q_sb, q_sf, q_mu, q_mu1, q_mu2, q_muS, q_muS1, q_muS2, q_app, q_app1, q_app2, q_pop, q_pop1, q_rev, q_rev1, q_isi, q_isi1, q_inV, q_inV1, q_ixV, q_ixV1, q_ixV2, q_ixV3, q_ixL, q_ixT, q_kV, q_fI, q_addI, q_eqI, q_eqS, q_eqB, q_int, q_tupL, q_tupT, q_listL, q_listT, q_len1, q_len2, q_neg, q_neg1, q_call, q_call2, q_call3, q_call4, q_cnil, q_ccons, q_ccons1, q_ccons2, q_cb', q_cb'1, q_ar0, q_ar1, q_ar2, q_ar3, q_ar4, q_ar5, q_put0, q_put1, q_put2, q_put3, q_put4, q_put5, q_bix0, q_bix1, q_bix2, q_sq, q_sq1, q_sq2, q_sq3, q_sq4, q_snil, q_ret, q_ret1, q_expr, q_expr1, q_ifS, q_ifS1, q_ifS2, q_set, q_set1, q_asg, q_asg1, q_gname, q_gnil, q_gcons, q_gcons1, q_par, q_par1, q_aug, q_aug1, q_aug2, q_rng, q_iseq, q_iseq1, q_sd1, q_sd2, q_kP2, q_fro, q_fro1, q_for, q_for1, q_k0, q_k1, q_w0, q_w1, q_lc, q_lc2, q_n1, q_n0, q_run, bO_b, bO_v, bO_n, finB0, finB1, q_at0, q_at1, q_at2, q_at3, q_bs, q_bn, q_ms, q_mn, q_g0, q_gs, q_s0, q_ss, List.head?_cons, List.tail_cons, List.map_cons, List.map_nil, List.length_cons, List.length_nil, List.cons_append, List.nil_append, List.replicate_succ, List.replicate_zero, Nat.reduceSub, Nat.reduceAdd, Bool.false_xor, Bool.true_xor, Bool.not_true, Bool.not_false, beq_self_eq_true, isBool, isInt, isStr, isTuple, q_callI, if_true, ite_true, List.nodup_nil, List.nodup_cons, List.not_mem_nil, not_false_eq_true, and_true, true_and, and_self, q_fg0, q_fg1, q_fg2, q_fg3, q_fg4, q_fg5, q_fg6, q_lg0, q_lg1, q_lg2, q_lg3, q_lg4, q_lg5, q_sub, q_sub1, q_sub2, q_sub3, q_sub4, q_sub5, q_rng2, q_rng2a, q_aS, q_aS1, q_aS2, q_aS3, q_aS4, q_aS5, q_aS5', q_aS7]
    | i _ x => simp only [q_var, q_var1, q_var2, q_mv, q_mv1, q_mv2, q_c, q_pr, q_bin, q_bin1, q_bin2, q_dv, q_do, q_tst, q_tst1, q_isN, q_isN0, q_isN1, q_isN2, q_isN3, q_isN4, q_isN5, q_and, q_and1, q_and2, q_or, q_or1, q_or2, q_not, q_not1, q_yes, q_andV, q_andV1, q_andV2, q_orV, q_orV1, q_orV2, q_notV, q_notV1, q_ifE, q_ifE1, q_ifE2, q_nil, q_cons, q_cons1, q_cons2, q_tup, q_tup1, q_lst, q_lst1, q_cb, q_cb1, q_lenV, q_lenV1, q_seq, q_seq1, q_sl, q_st, q_so, q_sb, q_sf, q_mu, q_mu1, q_mu2, q_muS, q_muS1, q_muS2, q_app, q_app1, q_app2, q_pop, q_pop1, q_rev, q_rev1, q_isi, q_isi1, q_inV, q_inV1, q_ixV, q_ixV1, q_ixV2, q_ixV3, q_ixL, q_ixT, q_kV, q_fI, q_addI, q_eqI, q_eqS, q_eqB, q_int, q_tupL, q_tupT, q_listL, q_listT, q_len1, q_len2, q_neg, q_neg1, q_call, q_call2, q_call3, q_call4, q_cnil, q_ccons, q_ccons1, q_ccons2, q_cb', q_cb'1, q_ar0, q_ar1, q_ar2, q_ar3, q_ar4, q_ar5, q_put0, q_put1, q_put2, q_put3, q_put4, q_put5, q_bix0, q_bix1, q_bix2, q_sq, q_sq1, q_sq2, q_sq3, q_sq4, q_snil, q_ret, q_ret1, q_expr, q_expr1, q_ifS, q_ifS1, q_ifS2, q_set, q_set1, q_asg, q_asg1, q_gname, q_gnil, q_gcons, q_gcons1, q_par, q_par1, q_aug, q_aug1, q_aug2, q_rng, q_iseq, q_iseq1, q_sd1, q_sd2, q_kP2, q_fro, q_fro1, q_for, q_for1, q_k0, q_k1, q_w0, q_w1, q_lc, q_lc2, q_n1, q_n0, q_run, bO_b, bO_v, bO_n, finB0, finB1, q_at0, q_at1, q_at2, q_at3, q_bs, q_bn, q_ms, q_mn, q_g0, q_gs, q_s0, q_ss, List.head?_cons, List.tail_cons, List.map_cons, List.map_nil, List.length_cons, List.length_nil, List.cons_append, List.nil_append, List.replicate_succ, List.replicate_zero, Nat.reduceSub, Nat.reduceAdd, Bool.false_xor, Bool.true_xor, Bool.not_true, Bool.not_false, beq_self_eq_true, isBool, isInt, isStr, isTuple, q_callI, if_true, ite_true, List.nodup_nil, List.nodup_cons, List.not_mem_nil, not_false_eq_true, and_true, true_and, and_self, q_fg0, q_fg1, q_fg2, q_fg3, q_fg4, q_fg5, q_fg6, q_lg0, q_lg1, q_lg2, q_lg3, q_lg4, q_lg5, q_sub, q_sub1, q_sub2, q_sub3, q_sub4, q_sub5, q_rng2, q_rng2a, q_aS, q_aS1, q_aS2, q_aS3, q_aS4, q_aS5, q_aS5', q_aS7]
    | s _ x => simp only [q_var, q_var1, q_var2, q_mv, q_mv1, q_mv2, q_c, q_pr, q_bin, q_bin1, q_bin2, q_dv, q_do, q_tst, q_tst1, q_isN, q_isN0, q_isN1, q_isN2, q_isN3, q_isN4, q_isN5, q_and, q_and1, q_and2, q_or, q_or1, q_or2, q_not, q_not1, q_yes, q_andV, q_andV1, q_andV2, q_orV, q_orV1, q_orV2, q_notV, q_notV1, q_ifE, q_ifE1, q_ifE2, q_nil, q_cons, q_cons1, q_cons2, q_tup, q_tup1, q_lst, q_lst1, q_cb, q_cb1, q_lenV, q_lenV1, q_seq, q_seq1, q_sl, q_st, q_so, q_sb, q_sf, q_mu, q_mu1, q_mu2, q_muS, q_muS1, q_muS2, q_app, q_app1, q_app2, q_pop, q_pop1, q_rev, q_rev1, q_isi, q_isi1, q_inV, q_inV1, q_ixV, q_ixV1, q_ixV2, q_ixV3, q_ixL, q_ixT, q_kV, q_fI, q_addI, q_eqI, q_eqS, q_eqB, q_int, q_tupL, q_tupT, q_listL, q_listT, q_len1, q_len2, q_neg, q_neg1, q_call, q_call2, q_call3, q_call4, q_cnil, q_ccons, q_ccons1, q_ccons2, q_cb', q_cb'1, q_ar0, q_ar1, q_ar2, q_ar3, q_ar4, q_ar5, q_put0, q_put1, q_put2, q_put3, q_put4, q_put5, q_bix0, q_bix1, q_bix2, q_sq, q_sq1, q_sq2, q_sq3, q_sq4, q_snil, q_ret, q_ret1, q_expr, q_expr1, q_ifS, q_ifS1, q_ifS2, q_set, q_set1, q_asg, q_asg1, q_gname, q_gnil, q_gcons, q_gcons1, q_par, q_par1, q_aug, q_aug1, q_aug2, q_rng, q_iseq, q_iseq1, q_sd1, q_sd2, q_kP2, q_fro, q_fro1, q_for, q_for1, q_k0, q_k1, q_w0, q_w1, q_lc, q_lc2, q_n1, q_n0, q_run, bO_b, bO_v, bO_n, finB0, finB1, q_at0, q_at1, q_at2, q_at3, q_bs, q_bn, q_ms, q_mn, q_g0, q_gs, q_s0, q_ss, List.head?_cons, List.tail_cons, List.map_cons, List.map_nil, List.length_cons, List.length_nil, List.cons_append, List.nil_append, List.replicate_succ, List.replicate_zero, Nat.reduceSub, Nat.reduceAdd, Bool.false_xor, Bool.true_xor, Bool.not_true, Bool.not_false, beq_self_eq_true, isBool, isInt, isStr, isTuple, q_callI, if_true, ite_true, List.nodup_nil, List.nodup_cons, List.not_mem_nil, not_false_eq_true, and_true, true_and, and_self, q_fg0, q_fg1, q_fg2, q_fg3, q_fg4, q_fg5, q_fg6, q_lg0, q_lg1, q_lg2, q_lg3, q_lg4, q_lg5, q_sub, q_sub1, q_sub2, q_sub3, q_sub4, q_sub5, q_rng2, q_rng2a, q_aS, q_aS1, q_aS2, q_aS3, q_aS4, q_aS5, q_aS5', q_aS7]
    | e => simp only [q_var, q_var1, q_var2, q_mv, q_mv1, q_mv2, q_c, q_pr, q_bin, q_bin1, q_bin2, q_dv, q_do, q_tst, q_tst1, q_isN, q_isN0, q_isN1, q_isN2, q_isN3, q_isN4, q_isN5, q_and, q_and1, q_and2, q_or, q_or1, q_or2, q_not, q_not1, q_yes, q_andV, q_andV1, q_andV2, q_orV, q_orV1, q_orV2, q_notV, q_notV1, q_ifE, q_ifE1, q_ifE2, q_nil, q_cons, q_cons1, q_cons2, q_tup, q_tup1, q_lst, q_lst1, q_cb, q_cb1, q_lenV, q_lenV1, q_seq, q_seq1, q_sl, q_st, q_so, q_sb, q_sf, q_mu, q_mu1, q_mu2, q_muS, q_muS1, q_muS2, q_app, q_app1, q_app2, q_pop, q_pop1, q_rev, q_rev1, q_isi, q_isi1, q_inV, q_inV1, q_ixV, q_ixV1, q_ixV2, q_ixV3, q_ixL, q_ixT, q_kV, q_fI, q_addI, q_eqI, q_eqS, q_eqB, q_int, q_tupL, q_tupT, q_listL, q_listT, q_len1, q_len2, q_neg, q_neg1, q_call, q_call2, q_call3, q_call4, q_cnil, q_ccons, q_ccons1, q_ccons2, q_cb', q_cb'1, q_ar0, q_ar1, q_ar2, q_ar3, q_ar4, q_ar5, q_put0, q_put1, q_put2, q_put3, q_put4, q_put5, q_bix0, q_bix1, q_bix2, q_sq, q_sq1, q_sq2, q_sq3, q_sq4, q_snil, q_ret, q_ret1, q_expr, q_expr1, q_ifS, q_ifS1, q_ifS2, q_set, q_set1, q_asg, q_asg1, q_gname, q_gnil, q_gcons, q_gcons1, q_par, q_par1, q_aug, q_aug1, q_aug2, q_rng, q_iseq, q_iseq1, q_sd1, q_sd2, q_kP2, q_fro, q_fro1, q_for, q_for1, q_k0, q_k1, q_w0, q_w1, q_lc, q_lc2, q_n1, q_n0, q_run, bO_b, bO_v, bO_n, finB0, finB1, q_at0, q_at1, q_at2, q_at3, q_bs, q_bn, q_ms, q_mn, q_g0, q_gs, q_s0, q_ss, List.head?_cons, List.tail_cons, List.map_cons, List.map_nil, List.length_cons, List.length_nil, List.cons_append, List.nil_append, List.replicate_succ, List.replicate_zero, Nat.reduceSub, Nat.reduceAdd, Bool.false_xor, Bool.true_xor, Bool.not_true, Bool.not_false, beq_self_eq_true, isBool, isInt, isStr, isTuple, q_callI, if_true, ite_true, List.nodup_nil, List.nodup_cons, List.not_mem_nil, not_false_eq_true, and_true, true_and, and_self, q_fg0, q_fg1, q_fg2, q_fg3, q_fg4, q_fg5, q_fg6, q_lg0, q_lg1, q_lg2, q_lg3, q_lg4, q_lg5, q_sub, q_sub1, q_sub2, q_sub3, q_sub4, q_sub5, q_rng2, q_rng2a, q_aS, q_aS1, q_aS2, q_aS3, q_aS4, q_aS5, q_aS5', q_aS7]
    | t _ ds h hl =>
      have H := for_inv (g := rgName 2) (b := w_Lsame_1 (f_Lsame n)) (ks := [2]) (ds := rng 0 ds.length) (ρ := [some (.val (.tuple ds)), some (.val (.tuple ds)), none]) (fun _ ρ => ρ = [some (.val (.tuple ds)), some (.val (.tuple ds)), none]) 0 rfl fun i d ρ hd hρ => by
        obtain ⟨h1, h2⟩ := rng_get hd
        subst hρ
        subst h2
        have ha : atI ds (i : Int) = some ds[i] := at_nat (List.getElem?_eq_getElem h1)
        have hs := same_eq n ds[i] (h _ (List.getElem_mem h1))
        refine ⟨_, [some (.val (.tuple ds)), some (.val (.tuple ds)), some (.val (.int (i : Int)))], rfl, ?_, rfl⟩
        unfold w_Lsame_1
        have e0 : (0 : Int) + (i : Int) = (i : Int) := Int.zero_add _
        simp only [q_var, q_var1, q_var2, q_mv, q_mv1, q_mv2, q_c, q_pr, q_bin, q_bin1, q_bin2, q_dv, q_do, q_tst, q_tst1, q_isN, q_isN0, q_isN1, q_isN2, q_isN3, q_isN4, q_isN5, q_and, q_and1, q_and2, q_or, q_or1, q_or2, q_not, q_not1, q_yes, q_andV, q_andV1, q_andV2, q_orV, q_orV1, q_orV2, q_notV, q_notV1, q_ifE, q_ifE1, q_ifE2, q_nil, q_cons, q_cons1, q_cons2, q_tup, q_tup1, q_lst, q_lst1, q_cb, q_cb1, q_lenV, q_lenV1, q_seq, q_seq1, q_sl, q_st, q_so, q_sb, q_sf, q_mu, q_mu1, q_mu2, q_muS, q_muS1, q_muS2, q_app, q_app1, q_app2, q_pop, q_pop1, q_rev, q_rev1, q_isi, q_isi1, q_inV, q_inV1, q_ixV, q_ixV1, q_ixV2, q_ixV3, q_ixL, q_ixT, q_kV, q_fI, q_addI, q_eqI, q_eqS, q_eqB, q_int, q_tupL, q_tupT, q_listL, q_listT, q_len1, q_len2, q_neg, q_neg1, q_call, q_call2, q_call3, q_call4, q_cnil, q_ccons, q_ccons1, q_ccons2, q_cb', q_cb'1, q_ar0, q_ar1, q_ar2, q_ar3, q_ar4, q_ar5, q_put0, q_put1, q_put2, q_put3, q_put4, q_put5, q_bix0, q_bix1, q_bix2, q_sq, q_sq1, q_sq2, q_sq3, q_sq4, q_snil, q_ret, q_ret1, q_expr, q_expr1, q_ifS, q_ifS1, q_ifS2, q_set, q_set1, q_asg, q_asg1, q_gname, q_gnil, q_gcons, q_gcons1, q_par, q_par1, q_aug, q_aug1, q_aug2, q_rng, q_iseq, q_iseq1, q_sd1, q_sd2, q_kP2, q_fro, q_fro1, q_for, q_for1, q_k0, q_k1, q_w0, q_w1, q_lc, q_lc2, q_n1, q_n0, q_run, bO_b, bO_v, bO_n, finB0, finB1, q_at0, q_at1, q_at2, q_at3, q_bs, q_bn, q_ms, q_mn, q_g0, q_gs, q_s0, q_ss, List.head?_cons, List.tail_cons, List.map_cons, List.map_nil, List.length_cons, List.length_nil, List.cons_append, List.nil_append, List.replicate_succ, List.replicate_zero, Nat.reduceSub, Nat.reduceAdd, Bool.false_xor, Bool.true_xor, Bool.not_true, Bool.not_false, beq_self_eq_true, isBool, isInt, isStr, isTuple, q_callI, if_true, ite_true, List.nodup_nil, List.nodup_cons, List.not_mem_nil, not_false_eq_true, and_true, true_and, and_self, q_fg0, q_fg1, q_fg2, q_fg3, q_fg4, q_fg5, q_fg6, q_lg0, q_lg1, q_lg2, q_lg3, q_lg4, q_lg5, q_sub, q_sub1, q_sub2, q_sub3, q_sub4, q_sub5, q_rng2, q_rng2a, q_aS, q_aS1, q_aS2, q_aS3, q_aS4, q_aS5, q_aS5', q_aS7, e0, ha, hs]
      obtain ⟨ρ', H1, H2⟩ := H
      subst H2
      simp only [q_var, q_var1, q_var2, q_mv, q_mv1, q_mv2, q_c, q_pr, q_bin, q_bin1, q_bin2, q_dv, q_do, q_tst, q_tst1, q_isN, q_isN0, q_isN1, q_isN2, q_isN3, q_isN4, q_isN5, q_and, q_and1, q_and2, q_or, q_or1, q_or2, q_not, q_not1, q_yes, q_andV, q_andV1, q_andV2, q_orV, q_orV1, q_orV2, q_notV, q_notV1, q_ifE, q_ifE1, q_ifE2, q_nil, q_cons, q_cons1, q_cons2, q_tup, q_tup1, q_lst, q_lst1, q_cb, q_cb1, q_lenV, q_lenV1, q_seq, q_seq1, q_sl, q_st, q_so, q_sb, q_sf, q_mu, q_mu1, q_mu2, q_muS, q_muS1, q_muS2, q_app, q_app1, q_app2, q_pop, q_pop1, q_rev, q_rev1, q_isi, q_isi1, q_inV, q_inV1, q_ixV, q_ixV1, q_ixV2, q_ixV3, q_ixL, q_ixT, q_kV, q_fI, q_addI, q_eqI, q_eqS, q_eqB, q_int, q_tupL, q_tupT, q_listL, q_listT, q_len1, q_len2, q_neg, q_neg1, q_call, q_call2, q_call3, q_call4, q_cnil, q_ccons, q_ccons1, q_ccons2, q_cb', q_cb'1, q_ar0, q_ar1, q_ar2, q_ar3, q_ar4, q_ar5, q_put0, q_put1, q_put2, q_put3, q_put4, q_put5, q_bix0, q_bix1, q_bix2, q_sq, q_sq1, q_sq2, q_sq3, q_sq4, q_snil, q_ret, q_ret1, q_expr, q_expr1, q_ifS, q_ifS1, q_ifS2, q_set, q_set1, q_asg, q_asg1, q_gname, q_gnil, q_gcons, q_gcons1, q_par, q_par1, q_aug, q_aug1, q_aug2, q_rng, q_iseq, q_iseq1, q_sd1, q_sd2, q_kP2, q_fro, q_fro1, q_for, q_for1, q_k0, q_k1, q_w0, q_w1, q_lc, q_lc2, q_n1, q_n0, q_run, bO_b, bO_v, bO_n, finB0, finB1, q_at0, q_at1, q_at2, q_at3, q_bs, q_bn, q_ms, q_mn, q_g0, q_gs, q_s0, q_ss, List.head?_cons, List.tail_cons, List.map_cons, List.map_nil, List.length_cons, List.length_nil, List.cons_append, List.nil_append, List.replicate_succ, List.replicate_zero, Nat.reduceSub, Nat.reduceAdd, Bool.false_xor, Bool.true_xor, Bool.not_true, Bool.not_false, beq_self_eq_true, isBool, isInt, isStr, isTuple, q_callI, if_true, ite_true, List.nodup_nil, List.nodup_cons, List.not_mem_nil, not_false_eq_true, and_true, true_and, and_self, q_fg0, q_fg1, q_fg2, q_fg3, q_fg4, q_fg5, q_fg6, q_lg0, q_lg1, q_lg2, q_lg3, q_lg4, q_lg5, q_sub, q_sub1, q_sub2, q_sub3, q_sub4, q_sub5, q_rng2, q_rng2a, q_aS, q_aS1, q_aS2, q_aS3, q_aS4, q_aS5, q_aS5', q_aS7, q_rng1 (n62 hl), Int.toNat_natCast, H1]
/-! ### _law_ended_rows -/
abbrev It := List Nat × Nat × Nat
def encT (x : It) : D := .tuple [.tuple (encN x.1), .int (x.2.1 : Int), .int (x.2.2 : Int)]
def encR (x : List Nat × Nat) : D := .tuple [.tuple (encN x.1), .int (x.2 : Int)]
def dstep (W : Nat → List Nat) (most : Nat) : List (List Nat × Nat) × List It → List (List Nat × Nat) × List It
  | (fd, []) => (fd, [])
  | (fd, (r, b, s) :: st) => if s < most then match W b with
      | [] => (fd ++ [(r, s + 1)], st)
      | [w] => (fd, (r, w, s + 1) :: st)
      | l :: m :: _ => (fd, (r ++ [0], m, s + 1) :: (r ++ [1], l, s + 1) :: st)
    else (fd, st)
def pot (most : Nat) (x : It) : Nat := 2 ^ (most - x.2.2 + 1) - 1
def pots (most : Nat) (st : List It) : Nat := (st.map (pot most)).sum
def rest (W : Nat → List Nat) (most : Nat) (x : It) : List Nat := ts W (most - x.2.2) x.2.1 x.2.2
theorem pot_pos (most : Nat) (x : It) : 1 ≤ pot most x := by
  unfold pot
  have : 2 ^ (most - x.2.2 + 1) = 2 * 2 ^ (most - x.2.2) := by rw [Nat.pow_succ]; omega
  have := Nat.two_pow_pos (most - x.2.2)
  omega
theorem pot_half {most s : Nat} (h : s < most) (r r' : List Nat) (b b' : Nat) : pot most (r, b, s) = 2 * pot most (r', b', s + 1) + 1 := by
  unfold pot
  show 2 ^ (most - s + 1) - 1 = 2 * (2 ^ (most - (s + 1) + 1) - 1) + 1
  rw [show most - (s + 1) + 1 = most - s by omega, Nat.pow_succ]
  have := Nat.two_pow_pos (most - s)
  omega
theorem pots_cons (most : Nat) (x : It) (st : List It) : pots most (x :: st) = pot most x + pots most st := by
  unfold pots
  rw [List.map_cons, List.sum_cons]
theorem pots_len (most : Nat) : ∀ (st : List It), st.length ≤ pots most st
  | [] => Nat.zero_le _
  | x :: st => by
    rw [pots_cons, List.length_cons]
    have := pots_len most st
    have := pot_pos most x
    omega
structure Ds (W : Nat → List Nat) (n most cap : Nat) (all : List Nat) (x : List (List Nat × Nat) × List It) : Prop where
  cap : x.1.length + pots most x.2 ≤ cap
  ok : ∀ y ∈ x.2, y.1.length ≤ y.2.2 ∧ y.2.1 < n
  all : x.1.map Prod.snd ++ x.2.flatMap (rest W most) = all
theorem dstep_ok {W : Nat → List Nat} {n most cap : Nat} {all : List Nat} (hw : ∀ b w, w ∈ W b → w < n) (hc : ∀ b, (W b).length ≤ 2) {x : List (List Nat × Nat) × List It} (h : Ds W n most cap all x) :
    Ds W n most cap all (dstep W most x) ∧ (pots most (dstep W most x).2 < pots most x.2 ∨ x.2 = []) := by
  obtain ⟨fd, st⟩ := x
  cases st with
  | nil => exact ⟨h, .inr rfl⟩
  | cons y st =>
    obtain ⟨r, b, s⟩ := y
    obtain ⟨h1, h2, h3⟩ := h
    have hy := h2 (r, b, s) (by simp)
    simp only [pots_cons] at h1
    simp only [List.flatMap_cons] at h3
    have hpos := pot_pos most (r, b, s)
    unfold dstep
    by_cases hs : s < most
    · simp only [hs, if_true]
      have hr : most - s = (most - (s + 1)) + 1 := by omega
      have hcb := hc b
      have hrest : rest W most (r, b, s) = if (W b).isEmpty then [s + 1] else (W b).reverse.flatMap fun w => ts W (most - (s + 1)) w (s + 1) := by
        show ts W (most - s) b s = _
        rw [hr]
        rfl
      rw [hrest] at h3
      have hp := fun r' b' => pot_half hs r r' b b'
      cases hW : W b with
      | nil =>
        rw [hW] at h3
        simp only [List.isEmpty_nil, if_true] at h3
        refine ⟨⟨by simp only [List.length_append, List.length_cons, List.length_nil]; omega, fun y hy => h2 y (by simp [hy]), ?_⟩, .inl (by simp only [pots_cons]; omega)⟩
        rw [← h3]
        simp
      | cons l ws =>
        cases ws with
        | nil =>
          rw [hW] at h3
          simp only [List.isEmpty_cons, Bool.false_eq_true, if_false, List.reverse_cons, List.reverse_nil, List.nil_append, List.flatMap_cons, List.flatMap_nil, List.append_nil] at h3
          refine ⟨⟨by simp only [pots_cons]; have := hp r l; omega, fun y hy => ?_, ?_⟩, .inl (by simp only [pots_cons]; have := hp r l; omega)⟩
          · rcases List.mem_cons.mp hy with rfl | hy
            · exact ⟨by simp only at *; omega, hw b l (by rw [hW]; simp)⟩
            · exact h2 y (by simp [hy])
          · simp only [List.flatMap_cons]
            exact h3
        | cons m ws2 =>
          have : ws2 = [] := by
            rw [hW] at hcb
            cases ws2 with
            | nil => rfl
            | cons a c => simp only [List.length_cons] at hcb; omega
          subst this
          rw [hW] at h3
          simp only [List.isEmpty_cons, Bool.false_eq_true, if_false, List.reverse_cons, List.reverse_nil, List.nil_append, List.flatMap_cons, List.flatMap_nil, List.append_nil, List.cons_append, List.append_assoc] at h3
          refine ⟨⟨by simp only [pots_cons]; have := hp (r ++ [0]) m; have := hp (r ++ [1]) l; omega, fun y hy => ?_, ?_⟩, .inl (by simp only [pots_cons]; have := hp (r ++ [0]) m; have := hp (r ++ [1]) l; omega)⟩
          · rcases List.mem_cons.mp hy with rfl | hy
            · exact ⟨by simp only [List.length_append, List.length_cons, List.length_nil] at *; omega, hw b m (by rw [hW]; simp)⟩
            · rcases List.mem_cons.mp hy with rfl | hy
              · exact ⟨by simp only [List.length_append, List.length_cons, List.length_nil] at *; omega, hw b l (by rw [hW]; simp)⟩
              · exact h2 y (by simp [hy])
          · simp only [List.flatMap_cons, List.append_assoc]
            exact h3
    · simp only [hs, if_false]
      have hrest : rest W most (r, b, s) = [] := by
        show ts W (most - s) b s = []
        rw [show most - s = 0 by omega]
        rfl
      rw [hrest, List.nil_append] at h3
      exact ⟨⟨by simp only; omega, fun y hy => h2 y (by simp [hy]), h3⟩, .inl (by rw [pots_cons]; omega)⟩
theorem diter {W : Nat → List Nat} {n most cap : Nat} {all : List Nat} (hw : ∀ b w, w ∈ W b → w < n) (hc : ∀ b, (W b).length ≤ 2) : ∀ (k : Nat) (x : List (List Nat × Nat) × List It), Ds W n most cap all x → pots most x.2 ≤ k → (iter (dstep W most) k x).2 = [] ∧ Ds W n most cap all (iter (dstep W most) k x)
  | 0, x, h, hk => ⟨by
      have := pots_len most x.2
      exact List.length_eq_zero_iff.mp (show x.2.length = 0 by omega), h⟩
  | k + 1, x, h, hk => by
    obtain ⟨h1, h2⟩ := dstep_ok hw hc h
    refine diter hw hc k (dstep W most x) h1 ?_
    rcases h2 with h2 | h2
    · omega
    · obtain ⟨fd, st⟩ := x
      subst h2
      show pots most [] ≤ k
      exact Nat.zero_le _
def envT (p : Pg) (most all : Nat) (x : List (List Nat × Nat) × List It) : En := [some (.val p.enc), some (.val (.int (most : Int))), some (.val (.int (all : Int))), some (.own (x.1.map encR)), some (.own (x.2.map encT).reverse), none, none, none, none, none]
theorem dlen (k : Nat) : ((1 : Int) == 0) = false ∧ ((2 : Int) == 0) = false ∧ ((0 : Int) == 1) = false ∧ ((2 : Int) == 1) = false ∧ ((0 : Int) == 2) = false ∧ ((1 : Int) == 2) = false := by decide
theorem dw (p : Pg) (wf : p.Wf) (most all : Nat) (hm : most ≤ 1000) (A : List Nat) (x : List (List Nat × Nat) × List It) (h : Ds p.W p.n most 1000 A x) (a : Nat) :
    ∃ ρ1 ρ2, rgName 5 (.int (a : Int)) (envT p most all x) = some ρ1 ∧ w_Lended_rows_1 ρ1 = some (.nx ρ2) ∧ killE [5, 6, 7, 8, 9] ρ2 = envT p most all (dstep p.W most x) := by
  obtain ⟨fd, st⟩ := x
  obtain ⟨e10, e20, e01, e21, e02, e12⟩ := dlen 0
  cases st with
  | nil =>
    refine ⟨_, [some (.val p.enc), some (.val (.int (most : Int))), some (.val (.int (all : Int))), some (.own (fd.map encR)), some (.own []), some (.val (.int (a : Int))), none, none, none, none], rfl, ?_, rfl⟩
    unfold w_Lended_rows_1 envT
    simp only [q_var, q_var1, q_var2, q_mv, q_mv1, q_mv2, q_c, q_pr, q_bin, q_bin1, q_bin2, q_dv, q_do, q_tst, q_tst1, q_isN, q_isN0, q_isN1, q_isN2, q_isN3, q_isN4, q_isN5, q_and, q_and1, q_and2, q_or, q_or1, q_or2, q_not, q_not1, q_yes, q_andV, q_andV1, q_andV2, q_orV, q_orV1, q_orV2, q_notV, q_notV1, q_ifE, q_ifE1, q_ifE2, q_nil, q_cons, q_cons1, q_cons2, q_tup, q_tup1, q_lst, q_lst1, q_cb, q_cb1, q_lenV, q_lenV1, q_seq, q_seq1, q_sl, q_st, q_so, q_sb, q_sf, q_mu, q_mu1, q_mu2, q_muS, q_muS1, q_muS2, q_app, q_app1, q_app2, q_pop, q_pop1, q_rev, q_rev1, q_isi, q_isi1, q_inV, q_inV1, q_ixV, q_ixV1, q_ixV2, q_ixV3, q_ixL, q_ixT, q_kV, q_fI, q_addI, q_eqI, q_eqS, q_eqB, q_int, q_tupL, q_tupT, q_listL, q_listT, q_len1, q_len2, q_neg, q_neg1, q_call, q_call2, q_call3, q_call4, q_cnil, q_ccons, q_ccons1, q_ccons2, q_cb', q_cb'1, q_ar0, q_ar1, q_ar2, q_ar3, q_ar4, q_ar5, q_put0, q_put1, q_put2, q_put3, q_put4, q_put5, q_bix0, q_bix1, q_bix2, q_sq, q_sq1, q_sq2, q_sq3, q_sq4, q_snil, q_ret, q_ret1, q_expr, q_expr1, q_ifS, q_ifS1, q_ifS2, q_set, q_set1, q_asg, q_asg1, q_gname, q_gnil, q_gcons, q_gcons1, q_par, q_par1, q_aug, q_aug1, q_aug2, q_rng, q_iseq, q_iseq1, q_sd1, q_sd2, q_kP2, q_fro, q_fro1, q_for, q_for1, q_k0, q_k1, q_w0, q_w1, q_lc, q_lc2, q_n1, q_n0, q_run, bO_b, bO_v, bO_n, finB0, finB1, q_at0, q_at1, q_at2, q_at3, q_bs, q_bn, q_ms, q_mn, q_g0, q_gs, q_s0, q_ss, List.head?_cons, List.tail_cons, List.map_cons, List.map_nil, List.length_cons, List.length_nil, List.cons_append, List.nil_append, List.replicate_succ, List.replicate_zero, Nat.reduceSub, Nat.reduceAdd, Bool.false_xor, Bool.true_xor, Bool.not_true, Bool.not_false, beq_self_eq_true, isBool, isInt, isStr, isTuple, q_callI, if_true, ite_true, List.nodup_nil, List.nodup_cons, List.not_mem_nil, not_false_eq_true, and_true, true_and, and_self, q_fg0, q_fg1, q_fg2, q_fg3, q_fg4, q_fg5, q_fg6, q_lg0, q_lg1, q_lg2, q_lg3, q_lg4, q_lg5, q_sub, q_sub1, q_sub2, q_sub3, q_sub4, q_sub5, q_rng2, q_rng2a, q_aS, q_aS1, q_aS2, q_aS3, q_aS4, q_aS5, q_aS5', q_aS7, List.reverse_nil, Int.natCast_zero, Int.lt_irrefl, decide_false]
  | cons y st =>
    obtain ⟨r, b, s⟩ := y
    obtain ⟨h1, h2, h3⟩ := h
    have hy := h2 (r, b, s) (by simp)
    simp only [pots_cons] at h1 hy
    have hpos := pot_pos most (r, b, s)
    have hsl := pots_len most st
    have hz : decide ((0 : Int) < (((List.map encT st).reverse.length + 1 : Nat) : Int)) = true := decide_eq_true (by omega)
    have hfl : (List.map encR fd).length < sizeLine := by rw [List.length_map]; exact sz_lt (by omega)
    have hstl : ((List.map encT st).reverse).length < sizeLine := by rw [List.length_reverse, List.length_map]; exact sz_lt (by omega)
    have hg : ∀ {ρ : En} {q : List D → En → Option En}, rgTup 3 q (encT (r, b, s)) ρ = q [.tuple (encN r), .int (b : Int), .int (s : Int)] ρ := q_gtup rfl
    have es : ((s : Int) + 1) = ((s + 1 : Nat) : Int) := by omega
    by_cases hs : s < most
    · have hd : decide ((s : Int) < (most : Int)) = true := decide_eq_true (by omega)
      rcases W_cases p b with hW | ⟨l, hW⟩ | ⟨l, m, hW⟩
      · have e : dstep p.W most (fd, (r, b, s) :: st) = (fd ++ [(r, s + 1)], st) := by
          simp only [dstep, hs, if_true, hW]
        rw [e]
        refine ⟨_, [some (.val p.enc), some (.val (.int (most : Int))), some (.val (.int (all : Int))), some (.own ((fd ++ [(r, s + 1)]).map encR)), some (.own (st.map encT).reverse), some (.val (.int (a : Int))), some (.val (.tuple (encN r))), some (.val (.int (b : Int))), some (.val (.int (s : Int))), some (.own (encN []))], rfl, ?_, rfl⟩
        unfold w_Lended_rows_1 envT
        have l0 : ((encN []).length : Int) = 0 := rfl
        have hap : (fd ++ [(r, s + 1)]).map encR = fd.map encR ++ [.tuple [.tuple (encN r), .int ((s + 1 : Nat) : Int)]] := by rw [List.map_append]; rfl
        rw [hap]
        simp only [q_var, q_var1, q_var2, q_mv, q_mv1, q_mv2, q_c, q_pr, q_bin, q_bin1, q_bin2, q_dv, q_do, q_tst, q_tst1, q_isN, q_isN0, q_isN1, q_isN2, q_isN3, q_isN4, q_isN5, q_and, q_and1, q_and2, q_or, q_or1, q_or2, q_not, q_not1, q_yes, q_andV, q_andV1, q_andV2, q_orV, q_orV1, q_orV2, q_notV, q_notV1, q_ifE, q_ifE1, q_ifE2, q_nil, q_cons, q_cons1, q_cons2, q_tup, q_tup1, q_lst, q_lst1, q_cb, q_cb1, q_lenV, q_lenV1, q_seq, q_seq1, q_sl, q_st, q_so, q_sb, q_sf, q_mu, q_mu1, q_mu2, q_muS, q_muS1, q_muS2, q_app, q_app1, q_app2, q_pop, q_pop1, q_rev, q_rev1, q_isi, q_isi1, q_inV, q_inV1, q_ixV, q_ixV1, q_ixV2, q_ixV3, q_ixL, q_ixT, q_kV, q_fI, q_addI, q_eqI, q_eqS, q_eqB, q_int, q_tupL, q_tupT, q_listL, q_listT, q_len1, q_len2, q_neg, q_neg1, q_call, q_call2, q_call3, q_call4, q_cnil, q_ccons, q_ccons1, q_ccons2, q_cb', q_cb'1, q_ar0, q_ar1, q_ar2, q_ar3, q_ar4, q_ar5, q_put0, q_put1, q_put2, q_put3, q_put4, q_put5, q_bix0, q_bix1, q_bix2, q_sq, q_sq1, q_sq2, q_sq3, q_sq4, q_snil, q_ret, q_ret1, q_expr, q_expr1, q_ifS, q_ifS1, q_ifS2, q_set, q_set1, q_asg, q_asg1, q_gname, q_gnil, q_gcons, q_gcons1, q_par, q_par1, q_aug, q_aug1, q_aug2, q_rng, q_iseq, q_iseq1, q_sd1, q_sd2, q_kP2, q_fro, q_fro1, q_for, q_for1, q_k0, q_k1, q_w0, q_w1, q_lc, q_lc2, q_n1, q_n0, q_run, bO_b, bO_v, bO_n, finB0, finB1, q_at0, q_at1, q_at2, q_at3, q_bs, q_bn, q_ms, q_mn, q_g0, q_gs, q_s0, q_ss, List.head?_cons, List.tail_cons, List.map_cons, List.map_nil, List.length_cons, List.length_nil, List.cons_append, List.nil_append, List.replicate_succ, List.replicate_zero, Nat.reduceSub, Nat.reduceAdd, Bool.false_xor, Bool.true_xor, Bool.not_true, Bool.not_false, beq_self_eq_true, isBool, isInt, isStr, isTuple, q_callI, if_true, ite_true, List.nodup_nil, List.nodup_cons, List.not_mem_nil, not_false_eq_true, and_true, true_and, and_self, q_fg0, q_fg1, q_fg2, q_fg3, q_fg4, q_fg5, q_fg6, q_lg0, q_lg1, q_lg2, q_lg3, q_lg4, q_lg5, q_sub, q_sub1, q_sub2, q_sub3, q_sub4, q_sub5, q_rng2, q_rng2a, q_aS, q_aS1, q_aS2, q_aS3, q_aS4, q_aS5, q_aS5', q_aS7, List.reverse_cons, List.length_append, hz, hg, lways_eq hy.2, hW, l0, hd, q_app3 hfl, es, e01, e02]
      · have e : dstep p.W most (fd, (r, b, s) :: st) = (fd, (r, l, s + 1) :: st) := by
          simp only [dstep, hs, if_true, hW]
        rw [e]
        refine ⟨_, [some (.val p.enc), some (.val (.int (most : Int))), some (.val (.int (all : Int))), some (.own (fd.map encR)), some (.own (((r, l, s + 1) :: st).map encT).reverse), some (.val (.int (a : Int))), some (.val (.tuple (encN r))), some (.val (.int (b : Int))), some (.val (.int (s : Int))), some (.own (encN [l]))], rfl, ?_, rfl⟩
        unfold w_Lended_rows_1 envT
        have l0 : ((encN [l]).length : Int) = 1 := rfl
        have l3 : atI (encN [l]) 0 = some (.int (l : Int)) := rfl
        have hap : (((r, l, s + 1) :: st).map encT).reverse = (st.map encT).reverse ++ [.tuple [.tuple (encN r), .int (l : Int), .int ((s + 1 : Nat) : Int)]] := by rw [List.map_cons, List.reverse_cons]; rfl
        rw [hap]
        simp only [q_var, q_var1, q_var2, q_mv, q_mv1, q_mv2, q_c, q_pr, q_bin, q_bin1, q_bin2, q_dv, q_do, q_tst, q_tst1, q_isN, q_isN0, q_isN1, q_isN2, q_isN3, q_isN4, q_isN5, q_and, q_and1, q_and2, q_or, q_or1, q_or2, q_not, q_not1, q_yes, q_andV, q_andV1, q_andV2, q_orV, q_orV1, q_orV2, q_notV, q_notV1, q_ifE, q_ifE1, q_ifE2, q_nil, q_cons, q_cons1, q_cons2, q_tup, q_tup1, q_lst, q_lst1, q_cb, q_cb1, q_lenV, q_lenV1, q_seq, q_seq1, q_sl, q_st, q_so, q_sb, q_sf, q_mu, q_mu1, q_mu2, q_muS, q_muS1, q_muS2, q_app, q_app1, q_app2, q_pop, q_pop1, q_rev, q_rev1, q_isi, q_isi1, q_inV, q_inV1, q_ixV, q_ixV1, q_ixV2, q_ixV3, q_ixL, q_ixT, q_kV, q_fI, q_addI, q_eqI, q_eqS, q_eqB, q_int, q_tupL, q_tupT, q_listL, q_listT, q_len1, q_len2, q_neg, q_neg1, q_call, q_call2, q_call3, q_call4, q_cnil, q_ccons, q_ccons1, q_ccons2, q_cb', q_cb'1, q_ar0, q_ar1, q_ar2, q_ar3, q_ar4, q_ar5, q_put0, q_put1, q_put2, q_put3, q_put4, q_put5, q_bix0, q_bix1, q_bix2, q_sq, q_sq1, q_sq2, q_sq3, q_sq4, q_snil, q_ret, q_ret1, q_expr, q_expr1, q_ifS, q_ifS1, q_ifS2, q_set, q_set1, q_asg, q_asg1, q_gname, q_gnil, q_gcons, q_gcons1, q_par, q_par1, q_aug, q_aug1, q_aug2, q_rng, q_iseq, q_iseq1, q_sd1, q_sd2, q_kP2, q_fro, q_fro1, q_for, q_for1, q_k0, q_k1, q_w0, q_w1, q_lc, q_lc2, q_n1, q_n0, q_run, bO_b, bO_v, bO_n, finB0, finB1, q_at0, q_at1, q_at2, q_at3, q_bs, q_bn, q_ms, q_mn, q_g0, q_gs, q_s0, q_ss, List.head?_cons, List.tail_cons, List.map_cons, List.map_nil, List.length_cons, List.length_nil, List.cons_append, List.nil_append, List.replicate_succ, List.replicate_zero, Nat.reduceSub, Nat.reduceAdd, Bool.false_xor, Bool.true_xor, Bool.not_true, Bool.not_false, beq_self_eq_true, isBool, isInt, isStr, isTuple, q_callI, if_true, ite_true, List.nodup_nil, List.nodup_cons, List.not_mem_nil, not_false_eq_true, and_true, true_and, and_self, q_fg0, q_fg1, q_fg2, q_fg3, q_fg4, q_fg5, q_fg6, q_lg0, q_lg1, q_lg2, q_lg3, q_lg4, q_lg5, q_sub, q_sub1, q_sub2, q_sub3, q_sub4, q_sub5, q_rng2, q_rng2a, q_aS, q_aS1, q_aS2, q_aS3, q_aS4, q_aS5, q_aS5', q_aS7, List.reverse_cons, List.length_append, hz, hg, lways_eq hy.2, hW, l0, l3, hd, q_app3 hstl, es, e10, e12]
      · have e : dstep p.W most (fd, (r, b, s) :: st) = (fd, (r ++ [0], m, s + 1) :: (r ++ [1], l, s + 1) :: st) := by
          simp only [dstep, hs, if_true, hW]
        rw [e]
        refine ⟨_, [some (.val p.enc), some (.val (.int (most : Int))), some (.val (.int (all : Int))), some (.own (fd.map encR)), some (.own (((r ++ [0], m, s + 1) :: (r ++ [1], l, s + 1) :: st).map encT).reverse), some (.val (.int (a : Int))), some (.val (.tuple (encN r))), some (.val (.int (b : Int))), some (.val (.int (s : Int))), some (.own (encN [l, m]))], rfl, ?_, rfl⟩
        unfold w_Lended_rows_1 envT
        have l0 : ((encN [l, m]).length : Int) = 2 := rfl
        have l3 : atI (encN [l, m]) 0 = some (.int (l : Int)) := rfl
        have l4 : atI (encN [l, m]) 1 = some (.int (m : Int)) := rfl
        have hrl : ∀ (k : D), (encN r).length + [k].length ≤ sizeLine := fun k => by rw [encN_len]; exact sz_le (by simp only [List.length_cons, List.length_nil]; omega)
        have hal : ∀ (x y : D), ((List.map encT st).reverse).length + [x, y].length ≤ sizeLine := fun x y => by rw [List.length_reverse, List.length_map]; exact sz_le (by simp only [List.length_cons, List.length_nil]; omega)
        have a1 := q_addT (hrl (.int 1))
        have a0 := q_addT (hrl (.int 0))
        have a2 := fun x y => q_addL (hal x y)
        have hap : (((r ++ [0], m, s + 1) :: (r ++ [1], l, s + 1) :: st).map encT).reverse = (st.map encT).reverse ++ [.tuple [.tuple (encN r ++ [.int 1]), .int (l : Int), .int ((s + 1 : Nat) : Int)], .tuple [.tuple (encN r ++ [.int 0]), .int (m : Int), .int ((s + 1 : Nat) : Int)]] := by
          rw [List.map_cons, List.map_cons, List.reverse_cons, List.reverse_cons, List.append_assoc]
          congr 1
          unfold encT
          simp only [encN_app]
          rfl
        rw [hap]
        simp only [q_var, q_var1, q_var2, q_mv, q_mv1, q_mv2, q_c, q_pr, q_bin, q_bin1, q_bin2, q_dv, q_do, q_tst, q_tst1, q_isN, q_isN0, q_isN1, q_isN2, q_isN3, q_isN4, q_isN5, q_and, q_and1, q_and2, q_or, q_or1, q_or2, q_not, q_not1, q_yes, q_andV, q_andV1, q_andV2, q_orV, q_orV1, q_orV2, q_notV, q_notV1, q_ifE, q_ifE1, q_ifE2, q_nil, q_cons, q_cons1, q_cons2, q_tup, q_tup1, q_lst, q_lst1, q_cb, q_cb1, q_lenV, q_lenV1, q_seq, q_seq1, q_sl, q_st, q_so, q_sb, q_sf, q_mu, q_mu1, q_mu2, q_muS, q_muS1, q_muS2, q_app, q_app1, q_app2, q_pop, q_pop1, q_rev, q_rev1, q_isi, q_isi1, q_inV, q_inV1, q_ixV, q_ixV1, q_ixV2, q_ixV3, q_ixL, q_ixT, q_kV, q_fI, q_addI, q_eqI, q_eqS, q_eqB, q_int, q_tupL, q_tupT, q_listL, q_listT, q_len1, q_len2, q_neg, q_neg1, q_call, q_call2, q_call3, q_call4, q_cnil, q_ccons, q_ccons1, q_ccons2, q_cb', q_cb'1, q_ar0, q_ar1, q_ar2, q_ar3, q_ar4, q_ar5, q_put0, q_put1, q_put2, q_put3, q_put4, q_put5, q_bix0, q_bix1, q_bix2, q_sq, q_sq1, q_sq2, q_sq3, q_sq4, q_snil, q_ret, q_ret1, q_expr, q_expr1, q_ifS, q_ifS1, q_ifS2, q_set, q_set1, q_asg, q_asg1, q_gname, q_gnil, q_gcons, q_gcons1, q_par, q_par1, q_aug, q_aug1, q_aug2, q_rng, q_iseq, q_iseq1, q_sd1, q_sd2, q_kP2, q_fro, q_fro1, q_for, q_for1, q_k0, q_k1, q_w0, q_w1, q_lc, q_lc2, q_n1, q_n0, q_run, bO_b, bO_v, bO_n, finB0, finB1, q_at0, q_at1, q_at2, q_at3, q_bs, q_bn, q_ms, q_mn, q_g0, q_gs, q_s0, q_ss, List.head?_cons, List.tail_cons, List.map_cons, List.map_nil, List.length_cons, List.length_nil, List.cons_append, List.nil_append, List.replicate_succ, List.replicate_zero, Nat.reduceSub, Nat.reduceAdd, Bool.false_xor, Bool.true_xor, Bool.not_true, Bool.not_false, beq_self_eq_true, isBool, isInt, isStr, isTuple, q_callI, if_true, ite_true, List.nodup_nil, List.nodup_cons, List.not_mem_nil, not_false_eq_true, and_true, true_and, and_self, q_fg0, q_fg1, q_fg2, q_fg3, q_fg4, q_fg5, q_fg6, q_lg0, q_lg1, q_lg2, q_lg3, q_lg4, q_lg5, q_sub, q_sub1, q_sub2, q_sub3, q_sub4, q_sub5, q_rng2, q_rng2a, q_aS, q_aS1, q_aS2, q_aS3, q_aS4, q_aS5, q_aS5', q_aS7, List.reverse_cons, List.length_append, hz, hg, lways_eq hy.2, hW, l0, l3, l4, hd, a0, a1, a2, es, e20, e21]
    · have hd : decide ((s : Int) < (most : Int)) = false := decide_eq_false (by omega)
      have e : dstep p.W most (fd, (r, b, s) :: st) = (fd, st) := by
        simp only [dstep, hs, if_false]
      rw [e]
      refine ⟨_, [some (.val p.enc), some (.val (.int (most : Int))), some (.val (.int (all : Int))), some (.own (fd.map encR)), some (.own (st.map encT).reverse), some (.val (.int (a : Int))), some (.val (.tuple (encN r))), some (.val (.int (b : Int))), some (.val (.int (s : Int))), some (.own (encN (p.W b)))], rfl, ?_, rfl⟩
      unfold w_Lended_rows_1 envT
      simp only [q_var, q_var1, q_var2, q_mv, q_mv1, q_mv2, q_c, q_pr, q_bin, q_bin1, q_bin2, q_dv, q_do, q_tst, q_tst1, q_isN, q_isN0, q_isN1, q_isN2, q_isN3, q_isN4, q_isN5, q_and, q_and1, q_and2, q_or, q_or1, q_or2, q_not, q_not1, q_yes, q_andV, q_andV1, q_andV2, q_orV, q_orV1, q_orV2, q_notV, q_notV1, q_ifE, q_ifE1, q_ifE2, q_nil, q_cons, q_cons1, q_cons2, q_tup, q_tup1, q_lst, q_lst1, q_cb, q_cb1, q_lenV, q_lenV1, q_seq, q_seq1, q_sl, q_st, q_so, q_sb, q_sf, q_mu, q_mu1, q_mu2, q_muS, q_muS1, q_muS2, q_app, q_app1, q_app2, q_pop, q_pop1, q_rev, q_rev1, q_isi, q_isi1, q_inV, q_inV1, q_ixV, q_ixV1, q_ixV2, q_ixV3, q_ixL, q_ixT, q_kV, q_fI, q_addI, q_eqI, q_eqS, q_eqB, q_int, q_tupL, q_tupT, q_listL, q_listT, q_len1, q_len2, q_neg, q_neg1, q_call, q_call2, q_call3, q_call4, q_cnil, q_ccons, q_ccons1, q_ccons2, q_cb', q_cb'1, q_ar0, q_ar1, q_ar2, q_ar3, q_ar4, q_ar5, q_put0, q_put1, q_put2, q_put3, q_put4, q_put5, q_bix0, q_bix1, q_bix2, q_sq, q_sq1, q_sq2, q_sq3, q_sq4, q_snil, q_ret, q_ret1, q_expr, q_expr1, q_ifS, q_ifS1, q_ifS2, q_set, q_set1, q_asg, q_asg1, q_gname, q_gnil, q_gcons, q_gcons1, q_par, q_par1, q_aug, q_aug1, q_aug2, q_rng, q_iseq, q_iseq1, q_sd1, q_sd2, q_kP2, q_fro, q_fro1, q_for, q_for1, q_k0, q_k1, q_w0, q_w1, q_lc, q_lc2, q_n1, q_n0, q_run, bO_b, bO_v, bO_n, finB0, finB1, q_at0, q_at1, q_at2, q_at3, q_bs, q_bn, q_ms, q_mn, q_g0, q_gs, q_s0, q_ss, List.head?_cons, List.tail_cons, List.map_cons, List.map_nil, List.length_cons, List.length_nil, List.cons_append, List.nil_append, List.replicate_succ, List.replicate_zero, Nat.reduceSub, Nat.reduceAdd, Bool.false_xor, Bool.true_xor, Bool.not_true, Bool.not_false, beq_self_eq_true, isBool, isInt, isStr, isTuple, q_callI, if_true, ite_true, List.nodup_nil, List.nodup_cons, List.not_mem_nil, not_false_eq_true, and_true, true_and, and_self, q_fg0, q_fg1, q_fg2, q_fg3, q_fg4, q_fg5, q_fg6, q_lg0, q_lg1, q_lg2, q_lg3, q_lg4, q_lg5, q_sub, q_sub1, q_sub2, q_sub3, q_sub4, q_sub5, q_rng2, q_rng2a, q_aS, q_aS1, q_aS2, q_aS3, q_aS4, q_aS5, q_aS5', q_aS7, List.reverse_cons, List.length_append, hz, hg, lways_eq hy.2, hd]
theorem ended_eq (p : Pg) (wf : p.Wf) (most all : Nat) (hm : most ≤ 8) (ha : 2 ^ (most + 1) ≤ all + 1) (hall : all ≤ 1000) :
    ∃ fd : List (List Nat × Nat), f_Lended_rows [.val p.enc, .val (.int (most : Int)), .val (.int (all : Int))] = some (.val (.list (fd.map encR)), [none, none, none]) ∧ fd.map Prod.snd = ts p.W most 0 0 ∧ fd.length ≤ 1000 := by
  have h0 : Ds p.W p.n most 1000 (ts p.W most 0 0) ([], [([], 0, 0)]) := by
    refine ⟨?_, fun y hy => ?_, ?_⟩
    · show 0 + (pot most ([], 0, 0) + 0) ≤ 1000
      unfold pot
      show 0 + (2 ^ (most - 0 + 1) - 1 + 0) ≤ 1000
      rw [Nat.sub_zero]
      omega
    · have : y = ([], 0, 0) := by simpa using hy
      subst this
      exact ⟨Nat.le_refl _, wf.pos⟩
    · show [] ++ (rest p.W most ([], 0, 0) ++ []) = _
      rw [List.nil_append, List.append_nil]
      rfl
  have hp : pots most [([], 0, 0)] ≤ all := by
    show pot most ([], 0, 0) + 0 ≤ all
    unfold pot
    show 2 ^ (most - 0 + 1) - 1 + 0 ≤ all
    rw [Nat.sub_zero]
    omega
  have H := for_fold (g := rgName 5) (b := w_Lended_rows_1) (ks := [5, 6, 7, 8, 9]) (fun (n : Nat) => PyData.int (n : Int)) (envT p most all) (fun x _ => dstep p.W most x) (Ds p.W p.n most 1000 (ts p.W most 0 0)) (fun _ => True) (List.range all) ([], [([], 0, 0)]) h0 (fun _ _ => trivial)
    fun x a hx _ => ⟨(dstep_ok wf.go (W_len p) hx).1, dw p wf most all (by omega) _ x hx a⟩
  have H1 := H.1
  rw [← rng0, iter_fold, List.length_range] at H1
  obtain ⟨h4, h5⟩ := diter wf.go (W_len p) all ([], [([], 0, 0)]) h0 hp
  refine ⟨(iter (dstep p.W most) all ([], [([], 0, 0)])).1, ?_, ?_⟩
  · unfold f_Lended_rows b_Lended_rows
    unfold envT at H1
    simp only [List.map_nil, List.map_cons, List.reverse_cons, List.reverse_nil, List.nil_append, encT, encN, Int.natCast_zero] at H1
    simp only [q_var, q_var1, q_var2, q_mv, q_mv1, q_mv2, q_c, q_pr, q_bin, q_bin1, q_bin2, q_dv, q_do, q_tst, q_tst1, q_isN, q_isN0, q_isN1, q_isN2, q_isN3, q_isN4, q_isN5, q_and, q_and1, q_and2, q_or, q_or1, q_or2, q_not, q_not1, q_yes, q_andV, q_andV1, q_andV2, q_orV, q_orV1, q_orV2, q_notV, q_notV1, q_ifE, q_ifE1, q_ifE2, q_nil, q_cons, q_cons1, q_cons2, q_tup, q_tup1, q_lst, q_lst1, q_cb, q_cb1, q_lenV, q_lenV1, q_seq, q_seq1, q_sl, q_st, q_so, q_sb, q_sf, q_mu, q_mu1, q_mu2, q_muS, q_muS1, q_muS2, q_app, q_app1, q_app2, q_pop, q_pop1, q_rev, q_rev1, q_isi, q_isi1, q_inV, q_inV1, q_ixV, q_ixV1, q_ixV2, q_ixV3, q_ixL, q_ixT, q_kV, q_fI, q_addI, q_eqI, q_eqS, q_eqB, q_int, q_tupL, q_tupT, q_listL, q_listT, q_len1, q_len2, q_neg, q_neg1, q_call, q_call2, q_call3, q_call4, q_cnil, q_ccons, q_ccons1, q_ccons2, q_cb', q_cb'1, q_ar0, q_ar1, q_ar2, q_ar3, q_ar4, q_ar5, q_put0, q_put1, q_put2, q_put3, q_put4, q_put5, q_bix0, q_bix1, q_bix2, q_sq, q_sq1, q_sq2, q_sq3, q_sq4, q_snil, q_ret, q_ret1, q_expr, q_expr1, q_ifS, q_ifS1, q_ifS2, q_set, q_set1, q_asg, q_asg1, q_gname, q_gnil, q_gcons, q_gcons1, q_par, q_par1, q_aug, q_aug1, q_aug2, q_rng, q_iseq, q_iseq1, q_sd1, q_sd2, q_kP2, q_fro, q_fro1, q_for, q_for1, q_k0, q_k1, q_w0, q_w1, q_lc, q_lc2, q_n1, q_n0, q_run, bO_b, bO_v, bO_n, finB0, finB1, q_at0, q_at1, q_at2, q_at3, q_bs, q_bn, q_ms, q_mn, q_g0, q_gs, q_s0, q_ss, List.head?_cons, List.tail_cons, List.map_cons, List.map_nil, List.length_cons, List.length_nil, List.cons_append, List.nil_append, List.replicate_succ, List.replicate_zero, Nat.reduceSub, Nat.reduceAdd, Bool.false_xor, Bool.true_xor, Bool.not_true, Bool.not_false, beq_self_eq_true, isBool, isInt, isStr, isTuple, q_callI, if_true, ite_true, List.nodup_nil, List.nodup_cons, List.not_mem_nil, not_false_eq_true, and_true, true_and, and_self, q_fg0, q_fg1, q_fg2, q_fg3, q_fg4, q_fg5, q_fg6, q_lg0, q_lg1, q_lg2, q_lg3, q_lg4, q_lg5, q_sub, q_sub1, q_sub2, q_sub3, q_sub4, q_sub5, q_rng2, q_rng2a, q_aS, q_aS1, q_aS2, q_aS3, q_aS4, q_aS5, q_aS5', q_aS7, q_rng1 (n62 hall), Int.toNat_natCast, H1]
  · have := h5.all
    rw [h4, List.flatMap_nil, List.append_nil] at this
    exact ⟨this, by have := h5.cap; omega⟩
end K50

set_option Elab.async false
set_option linter.all false
set_option maxRecDepth 100000
set_option maxHeartbeats 4000000
namespace K50
open PySem L2 DL
/-- a for loop as a fold, what holds told by the turn -/
theorem for_foldN {α β : Type} {g : RG} {b : RS} {ks : List Nat} (enc : α → D) (env : β → En) (step : β → α → β) (P : Nat → β → Prop) (A : α → Prop) (n : Nat) : ∀ (as : List α) (i : Nat) (x : β), i + as.length ≤ n → P i x → (∀ a ∈ as, A a) →
    (∀ (j : Nat) (x : β) (a : α), j < n → P j x → A a → P (j + 1) (step x a) ∧ ∃ ρ1 ρ2, g (enc a) (env x) = some ρ1 ∧ b ρ1 = some (.nx ρ2) ∧ killE ks ρ2 = env (step x a)) →
    forGo g b ks (as.map enc) (env x) = some (.nx (env (as.foldl step x))) ∧ P (i + as.length) (as.foldl step x)
  | [], i, x, _, hx, _, _ => ⟨rfl, hx⟩
  | a :: as, i, x, hi, hx, ha, hs => by
    rw [List.length_cons] at hi
    obtain ⟨h0, ρ1, ρ2, h1, h2, h3⟩ := hs i x a (by omega) hx (ha a (by simp))
    have := for_foldN (g := g) (b := b) (ks := ks) enc env step P A n as (i + 1) (step x a) (by omega) h0 (fun a h => ha a (by simp [h])) hs
    refine ⟨?_, by rw [List.length_cons, show i + (as.length + 1) = i + 1 + as.length by omega]; exact this.2⟩
    rw [List.map_cons]
    unfold forGo
    rw [h1]
    simp only [Option.bind_some]
    rw [h2]
    show forGo g b ks (as.map enc) (killE ks ρ2) = _
    rw [h3]
    exact this.1
theorem pow_le (j : Nat) (h : j ≤ 8) : 2 ^ j ≤ 256 := by
  have : 2 ^ j ≤ 2 ^ 8 := Nat.pow_le_pow_right (by omega) h
  omega
/-! ### _law_open_rows -/
theorem ow1 (p : Pg) (wf : p.Wf) (fr l : List Nat) (k : Nat) (b : Nat) (hb : b < p.n) (hl : l.length ≤ 1000) (x z : Option S) :
    ∃ ρ1 ρ2, rgName 5 (.int (b : Int)) [some (.val p.enc), some (.val (.int (k : Int))), x, z, some (.own (encN l)), none] = some ρ1 ∧ w_Lopen_rows_1 ρ1 = some (.nx ρ2) ∧
      killE [5] ρ2 = [some (.val p.enc), some (.val (.int (k : Int))), x, z, some (.own (encN (l ++ p.W b))), none] := by
  refine ⟨_, [some (.val p.enc), some (.val (.int (k : Int))), x, z, some (.own (encN (l ++ p.W b))), some (.val (.int (b : Int)))], rfl, ?_, rfl⟩
  unfold w_Lopen_rows_1
  have ha := q_addL (xs := encN l) (ys := encN (p.W b)) (by rw [encN_len, encN_len]; have := W_len p b; exact sz_le (by omega))
  rw [encN_app]
  simp only [q_var, q_var1, q_var2, q_mv, q_mv1, q_mv2, q_c, q_pr, q_bin, q_bin1, q_bin2, q_dv, q_do, q_tst, q_tst1, q_isN, q_isN0, q_isN1, q_isN2, q_isN3, q_isN4, q_isN5, q_and, q_and1, q_and2, q_or, q_or1, q_or2, q_not, q_not1, q_yes, q_andV, q_andV1, q_andV2, q_orV, q_orV1, q_orV2, q_notV, q_notV1, q_ifE, q_ifE1, q_ifE2, q_nil, q_cons, q_cons1, q_cons2, q_tup, q_tup1, q_lst, q_lst1, q_cb, q_cb1, q_lenV, q_lenV1, q_seq, q_seq1, q_sl, q_st, q_so, q_sb, q_sf, q_mu, q_mu1, q_mu2, q_muS, q_muS1, q_muS2, q_app, q_app1, q_app2, q_pop, q_pop1, q_rev, q_rev1, q_isi, q_isi1, q_inV, q_inV1, q_ixV, q_ixV1, q_ixV2, q_ixV3, q_ixL, q_ixT, q_kV, q_fI, q_addI, q_eqI, q_eqS, q_eqB, q_int, q_tupL, q_tupT, q_listL, q_listT, q_len1, q_len2, q_neg, q_neg1, q_call, q_call2, q_call3, q_call4, q_cnil, q_ccons, q_ccons1, q_ccons2, q_cb', q_cb'1, q_ar0, q_ar1, q_ar2, q_ar3, q_ar4, q_ar5, q_put0, q_put1, q_put2, q_put3, q_put4, q_put5, q_bix0, q_bix1, q_bix2, q_sq, q_sq1, q_sq2, q_sq3, q_sq4, q_snil, q_ret, q_ret1, q_expr, q_expr1, q_ifS, q_ifS1, q_ifS2, q_set, q_set1, q_asg, q_asg1, q_gname, q_gnil, q_gcons, q_gcons1, q_par, q_par1, q_aug, q_aug1, q_aug2, q_rng, q_iseq, q_iseq1, q_sd1, q_sd2, q_kP2, q_fro, q_fro1, q_for, q_for1, q_k0, q_k1, q_w0, q_w1, q_lc, q_lc2, q_n1, q_n0, q_run, bO_b, bO_v, bO_n, finB0, finB1, q_at0, q_at1, q_at2, q_at3, q_bs, q_bn, q_ms, q_mn, q_g0, q_gs, q_s0, q_ss, List.head?_cons, List.tail_cons, List.map_cons, List.map_nil, List.length_cons, List.length_nil, List.cons_append, List.nil_append, List.replicate_succ, List.replicate_zero, Nat.reduceSub, Nat.reduceAdd, Bool.false_xor, Bool.true_xor, Bool.not_true, Bool.not_false, beq_self_eq_true, isBool, isInt, isStr, isTuple, q_callI, if_true, ite_true, List.nodup_nil, List.nodup_cons, List.not_mem_nil, not_false_eq_true, and_true, true_and, and_self, q_fg0, q_fg1, q_fg2, q_fg3, q_fg4, q_fg5, q_fg6, q_lg0, q_lg1, q_lg2, q_lg3, q_lg4, q_lg5, q_sub, q_sub1, q_sub2, q_sub3, q_sub4, q_sub5, q_rng2, q_rng2a, q_aS, q_aS1, q_aS2, q_aS3, q_aS4, q_aS5, q_aS5', q_aS7, lways_eq hb, ha]
def envO (p : Pg) (k : Nat) (x : Bool × List Nat) : En := [some (.val p.enc), some (.val (.int (k : Int))), some (if x.1 then .own (encN x.2) else .val (.list (encN x.2))), none, none, none]
theorem ow2 (p : Pg) (wf : p.Wf) (k : Nat) (x : Bool × List Nat) (hl : x.2.length ≤ 256) (hw : ∀ w ∈ x.2, w < p.n) (a : Nat) :
    ∃ ρ1 ρ2, rgName 3 (.int (a : Int)) (envO p k x) = some ρ1 ∧ w_Lopen_rows_2 ρ1 = some (.nx ρ2) ∧ killE [3, 4, 5] ρ2 = envO p k (false, x.2.flatMap p.W) := by
  obtain ⟨fl, s⟩ := x
  simp only at hl hw
  have H := for_foldN (g := rgName 5) (b := w_Lopen_rows_1) (ks := [5]) (fun (n : Nat) => PyData.int (n : Int)) (fun l => [some (.val p.enc), some (.val (.int (k : Int))), some (.val (.list (encN s))), some (.val (.int (a : Int))), some (.own (encN l)), none])
    (fun l b => l ++ p.W b) (fun j l => l.length ≤ 2 * j) (fun w => w < p.n) 256 s 0 [] (by omega) (Nat.zero_le _) hw
    fun j l b hj hl2 hb => ⟨by rw [List.length_append]; have := W_len p b; omega, ow1 p wf s l k b hb (by omega) _ _⟩
  have H1 := H.1
  have e : ∀ (s l : List Nat), s.foldl (fun l b => l ++ p.W b) l = l ++ s.flatMap p.W := by
    intro s
    induction s with
    | nil => intro l; simp
    | cons a s ih => intro l; rw [List.foldl_cons, ih, List.flatMap_cons, List.append_assoc]
  rw [e, List.nil_append] at H1
  replace H1 : forGo (rgName 5) w_Lopen_rows_1 [5] (encN s) _ = _ := H1
  have e0 : encN [] = [] := Eq.trans rfl rfl
  rw [e0] at H1
  refine ⟨_, [some (.val p.enc), some (.val (.int (k : Int))), some (.val (.list (encN (s.flatMap p.W)))), some (.val (.int (a : Int))), some (.val (.list (encN (s.flatMap p.W)))), none], rfl, ?_, rfl⟩
  unfold w_Lopen_rows_2 envO
  cases fl with
  | true => simp only [q_var, q_var1, q_var2, q_mv, q_mv1, q_mv2, q_c, q_pr, q_bin, q_bin1, q_bin2, q_dv, q_do, q_tst, q_tst1, q_isN, q_isN0, q_isN1, q_isN2, q_isN3, q_isN4, q_isN5, q_and, q_and1, q_and2, q_or, q_or1, q_or2, q_not, q_not1, q_yes, q_andV, q_andV1, q_andV2, q_orV, q_orV1, q_orV2, q_notV, q_notV1, q_ifE, q_ifE1, q_ifE2, q_nil, q_cons, q_cons1, q_cons2, q_tup, q_tup1, q_lst, q_lst1, q_cb, q_cb1, q_lenV, q_lenV1, q_seq, q_seq1, q_sl, q_st, q_so, q_sb, q_sf, q_mu, q_mu1, q_mu2, q_muS, q_muS1, q_muS2, q_app, q_app1, q_app2, q_pop, q_pop1, q_rev, q_rev1, q_isi, q_isi1, q_inV, q_inV1, q_ixV, q_ixV1, q_ixV2, q_ixV3, q_ixL, q_ixT, q_kV, q_fI, q_addI, q_eqI, q_eqS, q_eqB, q_int, q_tupL, q_tupT, q_listL, q_listT, q_len1, q_len2, q_neg, q_neg1, q_call, q_call2, q_call3, q_call4, q_cnil, q_ccons, q_ccons1, q_ccons2, q_cb', q_cb'1, q_ar0, q_ar1, q_ar2, q_ar3, q_ar4, q_ar5, q_put0, q_put1, q_put2, q_put3, q_put4, q_put5, q_bix0, q_bix1, q_bix2, q_sq, q_sq1, q_sq2, q_sq3, q_sq4, q_snil, q_ret, q_ret1, q_expr, q_expr1, q_ifS, q_ifS1, q_ifS2, q_set, q_set1, q_asg, q_asg1, q_gname, q_gnil, q_gcons, q_gcons1, q_par, q_par1, q_aug, q_aug1, q_aug2, q_rng, q_iseq, q_iseq1, q_sd1, q_sd2, q_kP2, q_fro, q_fro1, q_for, q_for1, q_k0, q_k1, q_w0, q_w1, q_lc, q_lc2, q_n1, q_n0, q_run, bO_b, bO_v, bO_n, finB0, finB1, q_at0, q_at1, q_at2, q_at3, q_bs, q_bn, q_ms, q_mn, q_g0, q_gs, q_s0, q_ss, List.head?_cons, List.tail_cons, List.map_cons, List.map_nil, List.length_cons, List.length_nil, List.cons_append, List.nil_append, List.replicate_succ, List.replicate_zero, Nat.reduceSub, Nat.reduceAdd, Bool.false_xor, Bool.true_xor, Bool.not_true, Bool.not_false, beq_self_eq_true, isBool, isInt, isStr, isTuple, q_callI, if_true, ite_true, List.nodup_nil, List.nodup_cons, List.not_mem_nil, not_false_eq_true, and_true, true_and, and_self, q_fg0, q_fg1, q_fg2, q_fg3, q_fg4, q_fg5, q_fg6, q_lg0, q_lg1, q_lg2, q_lg3, q_lg4, q_lg5, q_sub, q_sub1, q_sub2, q_sub3, q_sub4, q_sub5, q_rng2, q_rng2a, q_aS, q_aS1, q_aS2, q_aS3, q_aS4, q_aS5, q_aS5', q_aS7, H1]
  | false => simp only [q_var, q_var1, q_var2, q_mv, q_mv1, q_mv2, q_c, q_pr, q_bin, q_bin1, q_bin2, q_dv, q_do, q_tst, q_tst1, q_isN, q_isN0, q_isN1, q_isN2, q_isN3, q_isN4, q_isN5, q_and, q_and1, q_and2, q_or, q_or1, q_or2, q_not, q_not1, q_yes, q_andV, q_andV1, q_andV2, q_orV, q_orV1, q_orV2, q_notV, q_notV1, q_ifE, q_ifE1, q_ifE2, q_nil, q_cons, q_cons1, q_cons2, q_tup, q_tup1, q_lst, q_lst1, q_cb, q_cb1, q_lenV, q_lenV1, q_seq, q_seq1, q_sl, q_st, q_so, q_sb, q_sf, q_mu, q_mu1, q_mu2, q_muS, q_muS1, q_muS2, q_app, q_app1, q_app2, q_pop, q_pop1, q_rev, q_rev1, q_isi, q_isi1, q_inV, q_inV1, q_ixV, q_ixV1, q_ixV2, q_ixV3, q_ixL, q_ixT, q_kV, q_fI, q_addI, q_eqI, q_eqS, q_eqB, q_int, q_tupL, q_tupT, q_listL, q_listT, q_len1, q_len2, q_neg, q_neg1, q_call, q_call2, q_call3, q_call4, q_cnil, q_ccons, q_ccons1, q_ccons2, q_cb', q_cb'1, q_ar0, q_ar1, q_ar2, q_ar3, q_ar4, q_ar5, q_put0, q_put1, q_put2, q_put3, q_put4, q_put5, q_bix0, q_bix1, q_bix2, q_sq, q_sq1, q_sq2, q_sq3, q_sq4, q_snil, q_ret, q_ret1, q_expr, q_expr1, q_ifS, q_ifS1, q_ifS2, q_set, q_set1, q_asg, q_asg1, q_gname, q_gnil, q_gcons, q_gcons1, q_par, q_par1, q_aug, q_aug1, q_aug2, q_rng, q_iseq, q_iseq1, q_sd1, q_sd2, q_kP2, q_fro, q_fro1, q_for, q_for1, q_k0, q_k1, q_w0, q_w1, q_lc, q_lc2, q_n1, q_n0, q_run, bO_b, bO_v, bO_n, finB0, finB1, q_at0, q_at1, q_at2, q_at3, q_bs, q_bn, q_ms, q_mn, q_g0, q_gs, q_s0, q_ss, List.head?_cons, List.tail_cons, List.map_cons, List.map_nil, List.length_cons, List.length_nil, List.cons_append, List.nil_append, List.replicate_succ, List.replicate_zero, Nat.reduceSub, Nat.reduceAdd, Bool.false_xor, Bool.true_xor, Bool.not_true, Bool.not_false, beq_self_eq_true, isBool, isInt, isStr, isTuple, q_callI, if_true, ite_true, List.nodup_nil, List.nodup_cons, List.not_mem_nil, not_false_eq_true, and_true, true_and, and_self, q_fg0, q_fg1, q_fg2, q_fg3, q_fg4, q_fg5, q_fg6, q_lg0, q_lg1, q_lg2, q_lg3, q_lg4, q_lg5, q_sub, q_sub1, q_sub2, q_sub3, q_sub4, q_sub5, q_rng2, q_rng2a, q_aS, q_aS1, q_aS2, q_aS3, q_aS4, q_aS5, q_aS5', q_aS7, Bool.false_eq_true, if_false, H1]
theorem flat_len {W : Nat → List Nat} (hc : ∀ b, (W b).length ≤ 2) : ∀ (s : List Nat), (s.flatMap W).length ≤ 2 * s.length
  | [] => Nat.zero_le _
  | a :: s => by
    rw [List.flatMap_cons, List.length_append, List.length_cons]
    have := hc a
    have := flat_len hc s
    omega
theorem lopen_eq (p : Pg) (wf : p.Wf) (k : Nat) (hk : k ≤ 8) : f_Lopen_rows [.val p.enc, .val (.int (k : Int))] = some (.val (.int ((nO p.W k 0 : Nat) : Int)), [none, none]) := by
  have H := for_foldN (g := rgName 3) (b := w_Lopen_rows_2) (ks := [3, 4, 5]) (fun (n : Nat) => PyData.int (n : Int)) (envO p k) (fun (x : Bool × List Nat) (_ : Nat) => (false, x.2.flatMap p.W)) (fun j x => x.2.length ≤ 2 ^ j ∧ ∀ w ∈ x.2, w < p.n) (fun _ => True) k (List.range k) 0 (true, [0])
    (by simp) ⟨Nat.le_refl _, fun w h => by have : w = 0 := by simpa using h
                                            rw [this]; exact wf.pos⟩ (fun _ _ => trivial) fun j x a hj hx _ => by
      refine ⟨⟨?_, fun w h => ?_⟩, ow2 p wf k x (Nat.le_trans hx.1 (pow_le j (by omega))) hx.2 a⟩
      · have := flat_len (W_len p) x.2
        have h2 := hx.1
        show (x.2.flatMap p.W).length ≤ 2 ^ (j + 1)
        rw [Nat.pow_succ]
        omega
      · obtain ⟨b, hb, h⟩ := List.mem_flatMap.mp h
        exact wf.go b w h
  have H1 := H.1
  rw [← rng0] at H1
  have e : ∀ (l : List Nat) (x : Bool × List Nat), (l.foldl (fun (x : Bool × List Nat) (_ : Nat) => (false, x.2.flatMap p.W)) x).2 = iter (fun s => s.flatMap p.W) l.length x.2 := by
    intro l
    induction l with
    | nil => intro x; rfl
    | cons a l ih => intro x; rw [List.foldl_cons, ih]; rfl
  have e2 := e (List.range k) (true, [0])
  have e3 := front_len p.W k [0]
  rw [List.length_range] at e2
  generalize hz : List.foldl (fun (x : Bool × List Nat) (_ : Nat) => (false, x.2.flatMap p.W)) (true, [0]) (List.range k) = z at H1 e2
  obtain ⟨fl, s⟩ := z
  simp only at e2
  have e4 : ((encN s).length : Int) = ((nO p.W k 0 : Nat) : Int) := by
    rw [encN_len, e2, e3]
    simp
  unfold f_Lopen_rows b_Lopen_rows
  unfold envO at H1
  simp only [if_true, encN1, show ((0 : Nat) : Int) = 0 from rfl] at H1
  cases fl with
  | true =>
    simp only [if_true] at H1
    simp only [q_var, q_var1, q_var2, q_mv, q_mv1, q_mv2, q_c, q_pr, q_bin, q_bin1, q_bin2, q_dv, q_do, q_tst, q_tst1, q_isN, q_isN0, q_isN1, q_isN2, q_isN3, q_isN4, q_isN5, q_and, q_and1, q_and2, q_or, q_or1, q_or2, q_not, q_not1, q_yes, q_andV, q_andV1, q_andV2, q_orV, q_orV1, q_orV2, q_notV, q_notV1, q_ifE, q_ifE1, q_ifE2, q_nil, q_cons, q_cons1, q_cons2, q_tup, q_tup1, q_lst, q_lst1, q_cb, q_cb1, q_lenV, q_lenV1, q_seq, q_seq1, q_sl, q_st, q_so, q_sb, q_sf, q_mu, q_mu1, q_mu2, q_muS, q_muS1, q_muS2, q_app, q_app1, q_app2, q_pop, q_pop1, q_rev, q_rev1, q_isi, q_isi1, q_inV, q_inV1, q_ixV, q_ixV1, q_ixV2, q_ixV3, q_ixL, q_ixT, q_kV, q_fI, q_addI, q_eqI, q_eqS, q_eqB, q_int, q_tupL, q_tupT, q_listL, q_listT, q_len1, q_len2, q_neg, q_neg1, q_call, q_call2, q_call3, q_call4, q_cnil, q_ccons, q_ccons1, q_ccons2, q_cb', q_cb'1, q_ar0, q_ar1, q_ar2, q_ar3, q_ar4, q_ar5, q_put0, q_put1, q_put2, q_put3, q_put4, q_put5, q_bix0, q_bix1, q_bix2, q_sq, q_sq1, q_sq2, q_sq3, q_sq4, q_snil, q_ret, q_ret1, q_expr, q_expr1, q_ifS, q_ifS1, q_ifS2, q_set, q_set1, q_asg, q_asg1, q_gname, q_gnil, q_gcons, q_gcons1, q_par, q_par1, q_aug, q_aug1, q_aug2, q_rng, q_iseq, q_iseq1, q_sd1, q_sd2, q_kP2, q_fro, q_fro1, q_for, q_for1, q_k0, q_k1, q_w0, q_w1, q_lc, q_lc2, q_n1, q_n0, q_run, bO_b, bO_v, bO_n, finB0, finB1, q_at0, q_at1, q_at2, q_at3, q_bs, q_bn, q_ms, q_mn, q_g0, q_gs, q_s0, q_ss, List.head?_cons, List.tail_cons, List.map_cons, List.map_nil, List.length_cons, List.length_nil, List.cons_append, List.nil_append, List.replicate_succ, List.replicate_zero, Nat.reduceSub, Nat.reduceAdd, Bool.false_xor, Bool.true_xor, Bool.not_true, Bool.not_false, beq_self_eq_true, isBool, isInt, isStr, isTuple, q_callI, if_true, ite_true, List.nodup_nil, List.nodup_cons, List.not_mem_nil, not_false_eq_true, and_true, true_and, and_self, q_fg0, q_fg1, q_fg2, q_fg3, q_fg4, q_fg5, q_fg6, q_lg0, q_lg1, q_lg2, q_lg3, q_lg4, q_lg5, q_sub, q_sub1, q_sub2, q_sub3, q_sub4, q_sub5, q_rng2, q_rng2a, q_aS, q_aS1, q_aS2, q_aS3, q_aS4, q_aS5, q_aS5', q_aS7, q_rng1 (n62 (show k ≤ 1000 by omega)), Int.toNat_natCast, H1, e4]
  | false =>
    simp only [Bool.false_eq_true, if_false] at H1
    simp only [q_var, q_var1, q_var2, q_mv, q_mv1, q_mv2, q_c, q_pr, q_bin, q_bin1, q_bin2, q_dv, q_do, q_tst, q_tst1, q_isN, q_isN0, q_isN1, q_isN2, q_isN3, q_isN4, q_isN5, q_and, q_and1, q_and2, q_or, q_or1, q_or2, q_not, q_not1, q_yes, q_andV, q_andV1, q_andV2, q_orV, q_orV1, q_orV2, q_notV, q_notV1, q_ifE, q_ifE1, q_ifE2, q_nil, q_cons, q_cons1, q_cons2, q_tup, q_tup1, q_lst, q_lst1, q_cb, q_cb1, q_lenV, q_lenV1, q_seq, q_seq1, q_sl, q_st, q_so, q_sb, q_sf, q_mu, q_mu1, q_mu2, q_muS, q_muS1, q_muS2, q_app, q_app1, q_app2, q_pop, q_pop1, q_rev, q_rev1, q_isi, q_isi1, q_inV, q_inV1, q_ixV, q_ixV1, q_ixV2, q_ixV3, q_ixL, q_ixT, q_kV, q_fI, q_addI, q_eqI, q_eqS, q_eqB, q_int, q_tupL, q_tupT, q_listL, q_listT, q_len1, q_len2, q_neg, q_neg1, q_call, q_call2, q_call3, q_call4, q_cnil, q_ccons, q_ccons1, q_ccons2, q_cb', q_cb'1, q_ar0, q_ar1, q_ar2, q_ar3, q_ar4, q_ar5, q_put0, q_put1, q_put2, q_put3, q_put4, q_put5, q_bix0, q_bix1, q_bix2, q_sq, q_sq1, q_sq2, q_sq3, q_sq4, q_snil, q_ret, q_ret1, q_expr, q_expr1, q_ifS, q_ifS1, q_ifS2, q_set, q_set1, q_asg, q_asg1, q_gname, q_gnil, q_gcons, q_gcons1, q_par, q_par1, q_aug, q_aug1, q_aug2, q_rng, q_iseq, q_iseq1, q_sd1, q_sd2, q_kP2, q_fro, q_fro1, q_for, q_for1, q_k0, q_k1, q_w0, q_w1, q_lc, q_lc2, q_n1, q_n0, q_run, bO_b, bO_v, bO_n, finB0, finB1, q_at0, q_at1, q_at2, q_at3, q_bs, q_bn, q_ms, q_mn, q_g0, q_gs, q_s0, q_ss, List.head?_cons, List.tail_cons, List.map_cons, List.map_nil, List.length_cons, List.length_nil, List.cons_append, List.nil_append, List.replicate_succ, List.replicate_zero, Nat.reduceSub, Nat.reduceAdd, Bool.false_xor, Bool.true_xor, Bool.not_true, Bool.not_false, beq_self_eq_true, isBool, isInt, isStr, isTuple, q_callI, if_true, ite_true, List.nodup_nil, List.nodup_cons, List.not_mem_nil, not_false_eq_true, and_true, true_and, and_self, q_fg0, q_fg1, q_fg2, q_fg3, q_fg4, q_fg5, q_fg6, q_lg0, q_lg1, q_lg2, q_lg3, q_lg4, q_lg5, q_sub, q_sub1, q_sub2, q_sub3, q_sub4, q_sub5, q_rng2, q_rng2a, q_aS, q_aS1, q_aS2, q_aS3, q_aS4, q_aS5, q_aS5', q_aS7, q_rng1 (n62 (show k ≤ 1000 by omega)), Int.toNat_natCast, H1, e4]
/-! ### _law_ring -/
theorem rw1 (p : Pg) (wf : p.Wf) (l : List Nat) (b : Nat) (hb : b < p.n) (hl : l.length ≤ 1000) (x z : Option S) :
    ∃ ρ1 ρ2, rgName 4 (.int (b : Int)) [some (.val p.enc), x, z, some (.own (encN l)), none, none] = some ρ1 ∧ w_Lring_3 ρ1 = some (.nx ρ2) ∧
      killE [4] ρ2 = [some (.val p.enc), x, z, some (.own (encN (rg1 p.W l b))), none, none] := by
  refine ⟨_, [some (.val p.enc), x, z, some (.own (encN (rg1 p.W l b))), some (.val (.int (b : Int))), none], rfl, ?_, rfl⟩
  unfold w_Lring_3
  have hsz : (encN (p.W b)).length ≤ sizeLine := sz_le (by have := W_len p b; rw [encN_len]; omega)
  have hlc : lcGo (rgName 5) t_Lring_2 e_Lring_1 [5] (encN (p.W b)) [] [some (.val p.enc), x, z, some (.val (.list (encN l))), some (.val (.int (b : Int))), none] = some (encN ((p.W b).filter fun w => !decide (w ∈ l)), [some (.val p.enc), x, z, some (.val (.list (encN l))), some (.val (.int (b : Int))), none]) := by
    have := lc_filter (g := rgName 5) (c := t_Lring_2) (t := e_Lring_1) (vs := [5]) (fun (n : Nat) => PyData.int (n : Int)) (fun w => !decide (w ∈ l)) (fun (n : Nat) => PyData.int (n : Int)) (ρ := [some (.val p.enc), x, z, some (.val (.list (encN l))), some (.val (.int (b : Int))), none]) (p.W b) [] fun w hm => by
      refine ⟨[some (.val p.enc), x, z, some (.val (.list (encN l))), some (.val (.int (b : Int))), some (.val (.int (w : Int)))], [some (.val p.enc), x, z, some (.val (.list (encN l))), some (.val (.int (b : Int))), some (.val (.int (w : Int)))], rfl, ?_, fun _ => rfl, fun _ => ⟨.val (.int (w : Int)), [some (.val p.enc), x, z, some (.val (.list (encN l))), some (.val (.int (b : Int))), some (.val (.int (w : Int)))], ?_, rfl, rfl⟩⟩
      · unfold t_Lring_2
        have h1 := Sh.shaped (sh_int (w : Int))
        have h2 := shN l
        have h3 := inN w l
        simp only [q_var, q_var1, q_var2, q_mv, q_mv1, q_mv2, q_c, q_pr, q_bin, q_bin1, q_bin2, q_dv, q_do, q_tst, q_tst1, q_isN, q_isN0, q_isN1, q_isN2, q_isN3, q_isN4, q_isN5, q_and, q_and1, q_and2, q_or, q_or1, q_or2, q_not, q_not1, q_yes, q_andV, q_andV1, q_andV2, q_orV, q_orV1, q_orV2, q_notV, q_notV1, q_ifE, q_ifE1, q_ifE2, q_nil, q_cons, q_cons1, q_cons2, q_tup, q_tup1, q_lst, q_lst1, q_cb, q_cb1, q_lenV, q_lenV1, q_seq, q_seq1, q_sl, q_st, q_so, q_sb, q_sf, q_mu, q_mu1, q_mu2, q_muS, q_muS1, q_muS2, q_app, q_app1, q_app2, q_pop, q_pop1, q_rev, q_rev1, q_isi, q_isi1, q_inV, q_inV1, q_ixV, q_ixV1, q_ixV2, q_ixV3, q_ixL, q_ixT, q_kV, q_fI, q_addI, q_eqI, q_eqS, q_eqB, q_int, q_tupL, q_tupT, q_listL, q_listT, q_len1, q_len2, q_neg, q_neg1, q_call, q_call2, q_call3, q_call4, q_cnil, q_ccons, q_ccons1, q_ccons2, q_cb', q_cb'1, q_ar0, q_ar1, q_ar2, q_ar3, q_ar4, q_ar5, q_put0, q_put1, q_put2, q_put3, q_put4, q_put5, q_bix0, q_bix1, q_bix2, q_sq, q_sq1, q_sq2, q_sq3, q_sq4, q_snil, q_ret, q_ret1, q_expr, q_expr1, q_ifS, q_ifS1, q_ifS2, q_set, q_set1, q_asg, q_asg1, q_gname, q_gnil, q_gcons, q_gcons1, q_par, q_par1, q_aug, q_aug1, q_aug2, q_rng, q_iseq, q_iseq1, q_sd1, q_sd2, q_kP2, q_fro, q_fro1, q_for, q_for1, q_k0, q_k1, q_w0, q_w1, q_lc, q_lc2, q_n1, q_n0, q_run, bO_b, bO_v, bO_n, finB0, finB1, q_at0, q_at1, q_at2, q_at3, q_bs, q_bn, q_ms, q_mn, q_g0, q_gs, q_s0, q_ss, List.head?_cons, List.tail_cons, List.map_cons, List.map_nil, List.length_cons, List.length_nil, List.cons_append, List.nil_append, List.replicate_succ, List.replicate_zero, Nat.reduceSub, Nat.reduceAdd, Bool.false_xor, Bool.true_xor, Bool.not_true, Bool.not_false, beq_self_eq_true, isBool, isInt, isStr, isTuple, q_callI, if_true, ite_true, List.nodup_nil, List.nodup_cons, List.not_mem_nil, not_false_eq_true, and_true, true_and, and_self, q_fg0, q_fg1, q_fg2, q_fg3, q_fg4, q_fg5, q_fg6, q_lg0, q_lg1, q_lg2, q_lg3, q_lg4, q_lg5, q_sub, q_sub1, q_sub2, q_sub3, q_sub4, q_sub5, q_rng2, q_rng2a, q_aS, q_aS1, q_aS2, q_aS3, q_aS4, q_aS5, q_aS5', q_aS7, q_inV2, S.d, h1, h2, h3]
      · unfold e_Lring_1
        simp only [q_var, q_var1, q_var2, q_mv, q_mv1, q_mv2, q_c, q_pr, q_bin, q_bin1, q_bin2, q_dv, q_do, q_tst, q_tst1, q_isN, q_isN0, q_isN1, q_isN2, q_isN3, q_isN4, q_isN5, q_and, q_and1, q_and2, q_or, q_or1, q_or2, q_not, q_not1, q_yes, q_andV, q_andV1, q_andV2, q_orV, q_orV1, q_orV2, q_notV, q_notV1, q_ifE, q_ifE1, q_ifE2, q_nil, q_cons, q_cons1, q_cons2, q_tup, q_tup1, q_lst, q_lst1, q_cb, q_cb1, q_lenV, q_lenV1, q_seq, q_seq1, q_sl, q_st, q_so, q_sb, q_sf, q_mu, q_mu1, q_mu2, q_muS, q_muS1, q_muS2, q_app, q_app1, q_app2, q_pop, q_pop1, q_rev, q_rev1, q_isi, q_isi1, q_inV, q_inV1, q_ixV, q_ixV1, q_ixV2, q_ixV3, q_ixL, q_ixT, q_kV, q_fI, q_addI, q_eqI, q_eqS, q_eqB, q_int, q_tupL, q_tupT, q_listL, q_listT, q_len1, q_len2, q_neg, q_neg1, q_call, q_call2, q_call3, q_call4, q_cnil, q_ccons, q_ccons1, q_ccons2, q_cb', q_cb'1, q_ar0, q_ar1, q_ar2, q_ar3, q_ar4, q_ar5, q_put0, q_put1, q_put2, q_put3, q_put4, q_put5, q_bix0, q_bix1, q_bix2, q_sq, q_sq1, q_sq2, q_sq3, q_sq4, q_snil, q_ret, q_ret1, q_expr, q_expr1, q_ifS, q_ifS1, q_ifS2, q_set, q_set1, q_asg, q_asg1, q_gname, q_gnil, q_gcons, q_gcons1, q_par, q_par1, q_aug, q_aug1, q_aug2, q_rng, q_iseq, q_iseq1, q_sd1, q_sd2, q_kP2, q_fro, q_fro1, q_for, q_for1, q_k0, q_k1, q_w0, q_w1, q_lc, q_lc2, q_n1, q_n0, q_run, bO_b, bO_v, bO_n, finB0, finB1, q_at0, q_at1, q_at2, q_at3, q_bs, q_bn, q_ms, q_mn, q_g0, q_gs, q_s0, q_ss, List.head?_cons, List.tail_cons, List.map_cons, List.map_nil, List.length_cons, List.length_nil, List.cons_append, List.nil_append, List.replicate_succ, List.replicate_zero, Nat.reduceSub, Nat.reduceAdd, Bool.false_xor, Bool.true_xor, Bool.not_true, Bool.not_false, beq_self_eq_true, isBool, isInt, isStr, isTuple, q_callI, if_true, ite_true, List.nodup_nil, List.nodup_cons, List.not_mem_nil, not_false_eq_true, and_true, true_and, and_self, q_fg0, q_fg1, q_fg2, q_fg3, q_fg4, q_fg5, q_fg6, q_lg0, q_lg1, q_lg2, q_lg3, q_lg4, q_lg5, q_sub, q_sub1, q_sub2, q_sub3, q_sub4, q_sub5, q_rng2, q_rng2a, q_aS, q_aS1, q_aS2, q_aS3, q_aS4, q_aS5, q_aS5', q_aS7]
    exact this
  have ha := q_addL (xs := encN l) (ys := encN ((p.W b).filter fun w => !decide (w ∈ l))) (by
    rw [encN_len, encN_len]
    have := W_len p b
    have := List.length_filter_le (fun w => !decide (w ∈ l)) (p.W b)
    exact sz_le (by omega))
  unfold rg1
  rw [encN_app]
  simp only [q_var, q_var1, q_var2, q_mv, q_mv1, q_mv2, q_c, q_pr, q_bin, q_bin1, q_bin2, q_dv, q_do, q_tst, q_tst1, q_isN, q_isN0, q_isN1, q_isN2, q_isN3, q_isN4, q_isN5, q_and, q_and1, q_and2, q_or, q_or1, q_or2, q_not, q_not1, q_yes, q_andV, q_andV1, q_andV2, q_orV, q_orV1, q_orV2, q_notV, q_notV1, q_ifE, q_ifE1, q_ifE2, q_nil, q_cons, q_cons1, q_cons2, q_tup, q_tup1, q_lst, q_lst1, q_cb, q_cb1, q_lenV, q_lenV1, q_seq, q_seq1, q_sl, q_st, q_so, q_sb, q_sf, q_mu, q_mu1, q_mu2, q_muS, q_muS1, q_muS2, q_app, q_app1, q_app2, q_pop, q_pop1, q_rev, q_rev1, q_isi, q_isi1, q_inV, q_inV1, q_ixV, q_ixV1, q_ixV2, q_ixV3, q_ixL, q_ixT, q_kV, q_fI, q_addI, q_eqI, q_eqS, q_eqB, q_int, q_tupL, q_tupT, q_listL, q_listT, q_len1, q_len2, q_neg, q_neg1, q_call, q_call2, q_call3, q_call4, q_cnil, q_ccons, q_ccons1, q_ccons2, q_cb', q_cb'1, q_ar0, q_ar1, q_ar2, q_ar3, q_ar4, q_ar5, q_put0, q_put1, q_put2, q_put3, q_put4, q_put5, q_bix0, q_bix1, q_bix2, q_sq, q_sq1, q_sq2, q_sq3, q_sq4, q_snil, q_ret, q_ret1, q_expr, q_expr1, q_ifS, q_ifS1, q_ifS2, q_set, q_set1, q_asg, q_asg1, q_gname, q_gnil, q_gcons, q_gcons1, q_par, q_par1, q_aug, q_aug1, q_aug2, q_rng, q_iseq, q_iseq1, q_sd1, q_sd2, q_kP2, q_fro, q_fro1, q_for, q_for1, q_k0, q_k1, q_w0, q_w1, q_lc, q_lc2, q_n1, q_n0, q_run, bO_b, bO_v, bO_n, finB0, finB1, q_at0, q_at1, q_at2, q_at3, q_bs, q_bn, q_ms, q_mn, q_g0, q_gs, q_s0, q_ss, List.head?_cons, List.tail_cons, List.map_cons, List.map_nil, List.length_cons, List.length_nil, List.cons_append, List.nil_append, List.replicate_succ, List.replicate_zero, Nat.reduceSub, Nat.reduceAdd, Bool.false_xor, Bool.true_xor, Bool.not_true, Bool.not_false, beq_self_eq_true, isBool, isInt, isStr, isTuple, q_callI, if_true, ite_true, List.nodup_nil, List.nodup_cons, List.not_mem_nil, not_false_eq_true, and_true, true_and, and_self, q_fg0, q_fg1, q_fg2, q_fg3, q_fg4, q_fg5, q_fg6, q_lg0, q_lg1, q_lg2, q_lg3, q_lg4, q_lg5, q_sub, q_sub1, q_sub2, q_sub3, q_sub4, q_sub5, q_rng2, q_rng2a, q_aS, q_aS1, q_aS2, q_aS3, q_aS4, q_aS5, q_aS5', q_aS7, lways_eq hb, q_lcI, hsz, hlc, ha]
def envR (p : Pg) (x : Bool × List Nat) : En := [some (.val p.enc), some (if x.1 then .own (encN x.2) else .val (.list (encN x.2))), none, none, none, none]
theorem rw2 (p : Pg) (wf : p.Wf) (x : Bool × List Nat) (hl : x.2.length ≤ 256) (hw : ∀ w ∈ x.2, w < p.n) (a : Nat) :
    (rgs p.W x.2).length ≤ 2 * x.2.length ∧ ∃ ρ1 ρ2, rgName 2 (.int (a : Int)) (envR p x) = some ρ1 ∧ w_Lring_4 ρ1 = some (.nx ρ2) ∧ killE [2, 3, 4] ρ2 = envR p (false, rgs p.W x.2) := by
  obtain ⟨fl, s⟩ := x
  simp only at hl hw
  have H := for_foldN (g := rgName 4) (b := w_Lring_3) (ks := [4]) (fun (n : Nat) => PyData.int (n : Int)) (fun l => [some (.val p.enc), some (.val (.list (encN s))), some (.val (.int (a : Int))), some (.own (encN l)), none, none])
    (rg1 p.W) (fun j l => l.length ≤ 2 * j) (fun w => w < p.n) 256 s 0 [] (by omega) (Nat.zero_le _) hw
    fun j l b hj hl2 hb => ⟨by
      unfold rg1
      rw [List.length_append]
      have := W_len p b
      have := List.length_filter_le (fun w => !decide (w ∈ l)) (p.W b)
      omega, rw1 p wf l b hb (by omega) _ _⟩
  have H1 := H.1
  replace H1 : forGo (rgName 4) w_Lring_3 [4] (encN s) _ = some (.nx [some (.val p.enc), some (.val (.list (encN s))), some (.val (.int (a : Int))), some (.own (encN (rgs p.W s))), none, none]) := H1
  have e0 : encN [] = [] := Eq.trans rfl rfl
  rw [e0] at H1
  refine ⟨by have := H.2; rw [Nat.zero_add] at this; exact this, _, [some (.val p.enc), some (.val (.list (encN (rgs p.W s)))), some (.val (.int (a : Int))), some (.val (.list (encN (rgs p.W s)))), none, none], rfl, ?_, rfl⟩
  unfold w_Lring_4 envR
  cases fl with
  | true => simp only [q_var, q_var1, q_var2, q_mv, q_mv1, q_mv2, q_c, q_pr, q_bin, q_bin1, q_bin2, q_dv, q_do, q_tst, q_tst1, q_isN, q_isN0, q_isN1, q_isN2, q_isN3, q_isN4, q_isN5, q_and, q_and1, q_and2, q_or, q_or1, q_or2, q_not, q_not1, q_yes, q_andV, q_andV1, q_andV2, q_orV, q_orV1, q_orV2, q_notV, q_notV1, q_ifE, q_ifE1, q_ifE2, q_nil, q_cons, q_cons1, q_cons2, q_tup, q_tup1, q_lst, q_lst1, q_cb, q_cb1, q_lenV, q_lenV1, q_seq, q_seq1, q_sl, q_st, q_so, q_sb, q_sf, q_mu, q_mu1, q_mu2, q_muS, q_muS1, q_muS2, q_app, q_app1, q_app2, q_pop, q_pop1, q_rev, q_rev1, q_isi, q_isi1, q_inV, q_inV1, q_ixV, q_ixV1, q_ixV2, q_ixV3, q_ixL, q_ixT, q_kV, q_fI, q_addI, q_eqI, q_eqS, q_eqB, q_int, q_tupL, q_tupT, q_listL, q_listT, q_len1, q_len2, q_neg, q_neg1, q_call, q_call2, q_call3, q_call4, q_cnil, q_ccons, q_ccons1, q_ccons2, q_cb', q_cb'1, q_ar0, q_ar1, q_ar2, q_ar3, q_ar4, q_ar5, q_put0, q_put1, q_put2, q_put3, q_put4, q_put5, q_bix0, q_bix1, q_bix2, q_sq, q_sq1, q_sq2, q_sq3, q_sq4, q_snil, q_ret, q_ret1, q_expr, q_expr1, q_ifS, q_ifS1, q_ifS2, q_set, q_set1, q_asg, q_asg1, q_gname, q_gnil, q_gcons, q_gcons1, q_par, q_par1, q_aug, q_aug1, q_aug2, q_rng, q_iseq, q_iseq1, q_sd1, q_sd2, q_kP2, q_fro, q_fro1, q_for, q_for1, q_k0, q_k1, q_w0, q_w1, q_lc, q_lc2, q_n1, q_n0, q_run, bO_b, bO_v, bO_n, finB0, finB1, q_at0, q_at1, q_at2, q_at3, q_bs, q_bn, q_ms, q_mn, q_g0, q_gs, q_s0, q_ss, List.head?_cons, List.tail_cons, List.map_cons, List.map_nil, List.length_cons, List.length_nil, List.cons_append, List.nil_append, List.replicate_succ, List.replicate_zero, Nat.reduceSub, Nat.reduceAdd, Bool.false_xor, Bool.true_xor, Bool.not_true, Bool.not_false, beq_self_eq_true, isBool, isInt, isStr, isTuple, q_callI, if_true, ite_true, List.nodup_nil, List.nodup_cons, List.not_mem_nil, not_false_eq_true, and_true, true_and, and_self, q_fg0, q_fg1, q_fg2, q_fg3, q_fg4, q_fg5, q_fg6, q_lg0, q_lg1, q_lg2, q_lg3, q_lg4, q_lg5, q_sub, q_sub1, q_sub2, q_sub3, q_sub4, q_sub5, q_rng2, q_rng2a, q_aS, q_aS1, q_aS2, q_aS3, q_aS4, q_aS5, q_aS5', q_aS7, H1]
  | false => simp only [q_var, q_var1, q_var2, q_mv, q_mv1, q_mv2, q_c, q_pr, q_bin, q_bin1, q_bin2, q_dv, q_do, q_tst, q_tst1, q_isN, q_isN0, q_isN1, q_isN2, q_isN3, q_isN4, q_isN5, q_and, q_and1, q_and2, q_or, q_or1, q_or2, q_not, q_not1, q_yes, q_andV, q_andV1, q_andV2, q_orV, q_orV1, q_orV2, q_notV, q_notV1, q_ifE, q_ifE1, q_ifE2, q_nil, q_cons, q_cons1, q_cons2, q_tup, q_tup1, q_lst, q_lst1, q_cb, q_cb1, q_lenV, q_lenV1, q_seq, q_seq1, q_sl, q_st, q_so, q_sb, q_sf, q_mu, q_mu1, q_mu2, q_muS, q_muS1, q_muS2, q_app, q_app1, q_app2, q_pop, q_pop1, q_rev, q_rev1, q_isi, q_isi1, q_inV, q_inV1, q_ixV, q_ixV1, q_ixV2, q_ixV3, q_ixL, q_ixT, q_kV, q_fI, q_addI, q_eqI, q_eqS, q_eqB, q_int, q_tupL, q_tupT, q_listL, q_listT, q_len1, q_len2, q_neg, q_neg1, q_call, q_call2, q_call3, q_call4, q_cnil, q_ccons, q_ccons1, q_ccons2, q_cb', q_cb'1, q_ar0, q_ar1, q_ar2, q_ar3, q_ar4, q_ar5, q_put0, q_put1, q_put2, q_put3, q_put4, q_put5, q_bix0, q_bix1, q_bix2, q_sq, q_sq1, q_sq2, q_sq3, q_sq4, q_snil, q_ret, q_ret1, q_expr, q_expr1, q_ifS, q_ifS1, q_ifS2, q_set, q_set1, q_asg, q_asg1, q_gname, q_gnil, q_gcons, q_gcons1, q_par, q_par1, q_aug, q_aug1, q_aug2, q_rng, q_iseq, q_iseq1, q_sd1, q_sd2, q_kP2, q_fro, q_fro1, q_for, q_for1, q_k0, q_k1, q_w0, q_w1, q_lc, q_lc2, q_n1, q_n0, q_run, bO_b, bO_v, bO_n, finB0, finB1, q_at0, q_at1, q_at2, q_at3, q_bs, q_bn, q_ms, q_mn, q_g0, q_gs, q_s0, q_ss, List.head?_cons, List.tail_cons, List.map_cons, List.map_nil, List.length_cons, List.length_nil, List.cons_append, List.nil_append, List.replicate_succ, List.replicate_zero, Nat.reduceSub, Nat.reduceAdd, Bool.false_xor, Bool.true_xor, Bool.not_true, Bool.not_false, beq_self_eq_true, isBool, isInt, isStr, isTuple, q_callI, if_true, ite_true, List.nodup_nil, List.nodup_cons, List.not_mem_nil, not_false_eq_true, and_true, true_and, and_self, q_fg0, q_fg1, q_fg2, q_fg3, q_fg4, q_fg5, q_fg6, q_lg0, q_lg1, q_lg2, q_lg3, q_lg4, q_lg5, q_sub, q_sub1, q_sub2, q_sub3, q_sub4, q_sub5, q_rng2, q_rng2a, q_aS, q_aS1, q_aS2, q_aS3, q_aS4, q_aS5, q_aS5', q_aS7, Bool.false_eq_true, if_false, H1]
theorem lring_eq (p : Pg) (wf : p.Wf) : ∃ r : Bool, f_Lring [.val p.enc] = some (.val (.bool r), [none]) ∧ (r = true ↔ pth p.W p.n 0) := by
  have hn := wf.small
  have H := for_foldN (g := rgName 2) (b := w_Lring_4) (ks := [2, 3, 4]) (fun (n : Nat) => PyData.int (n : Int)) (envR p) (fun (x : Bool × List Nat) (_ : Nat) => (false, rgs p.W x.2)) (fun j x => x.2.length ≤ 2 ^ j ∧ ∀ w ∈ x.2, w < p.n) (fun _ => True) p.n (List.range p.n) 0 (true, [0])
    (by simp) ⟨Nat.le_refl _, fun w h => by have : w = 0 := by simpa using h
                                            rw [this]; exact wf.pos⟩ (fun _ _ => trivial) fun j x a hj hx _ => by
      obtain ⟨h1, h2⟩ := rw2 p wf x (Nat.le_trans hx.1 (pow_le j (by omega))) hx.2 a
      refine ⟨⟨?_, fun w h => ?_⟩, h2⟩
      · have h2 := hx.1
        show (rgs p.W x.2).length ≤ 2 ^ (j + 1)
        rw [Nat.pow_succ]
        omega
      · rcases (rg1_mem p.W x.2 [] w).mp h with h | ⟨b, _, h⟩
        · exact (List.not_mem_nil h).elim
        · exact wf.go b w h
  have H1 := H.1
  rw [← rng0] at H1
  have e : ∀ (l : List Nat) (x : Bool × List Nat), (l.foldl (fun (x : Bool × List Nat) (_ : Nat) => (false, rgs p.W x.2)) x).2 = iter (rgs p.W) l.length x.2 := by
    intro l
    induction l with
    | nil => intro x; rfl
    | cons a l ih => intro x; rw [List.foldl_cons, ih]; rfl
  have e2 := e (List.range p.n) (true, [0])
  have e3 := rgs_ne p.W p.n [0]
  rw [List.length_range] at e2
  generalize hz : List.foldl (fun (x : Bool × List Nat) (_ : Nat) => (false, rgs p.W x.2)) (true, [0]) (List.range p.n) = z at H1 e2
  obtain ⟨fl, s⟩ := z
  simp only at e2
  rw [← e2] at e3
  have e1 : ((p.bs.map encB).length : Int) = (p.n : Int) := by rw [len_enc]
  refine ⟨decide ((0 : Int) < ((encN s).length : Int)), ?_, ?_⟩
  · unfold f_Lring b_Lring
    unfold envR at H1
    simp only [if_true, encN1, show ((0 : Nat) : Int) = 0 from rfl] at H1
    unfold Pg.enc at H1 ⊢
    cases fl with
    | true =>
      simp only [if_true] at H1
      simp only [q_var, q_var1, q_var2, q_mv, q_mv1, q_mv2, q_c, q_pr, q_bin, q_bin1, q_bin2, q_dv, q_do, q_tst, q_tst1, q_isN, q_isN0, q_isN1, q_isN2, q_isN3, q_isN4, q_isN5, q_and, q_and1, q_and2, q_or, q_or1, q_or2, q_not, q_not1, q_yes, q_andV, q_andV1, q_andV2, q_orV, q_orV1, q_orV2, q_notV, q_notV1, q_ifE, q_ifE1, q_ifE2, q_nil, q_cons, q_cons1, q_cons2, q_tup, q_tup1, q_lst, q_lst1, q_cb, q_cb1, q_lenV, q_lenV1, q_seq, q_seq1, q_sl, q_st, q_so, q_sb, q_sf, q_mu, q_mu1, q_mu2, q_muS, q_muS1, q_muS2, q_app, q_app1, q_app2, q_pop, q_pop1, q_rev, q_rev1, q_isi, q_isi1, q_inV, q_inV1, q_ixV, q_ixV1, q_ixV2, q_ixV3, q_ixL, q_ixT, q_kV, q_fI, q_addI, q_eqI, q_eqS, q_eqB, q_int, q_tupL, q_tupT, q_listL, q_listT, q_len1, q_len2, q_neg, q_neg1, q_call, q_call2, q_call3, q_call4, q_cnil, q_ccons, q_ccons1, q_ccons2, q_cb', q_cb'1, q_ar0, q_ar1, q_ar2, q_ar3, q_ar4, q_ar5, q_put0, q_put1, q_put2, q_put3, q_put4, q_put5, q_bix0, q_bix1, q_bix2, q_sq, q_sq1, q_sq2, q_sq3, q_sq4, q_snil, q_ret, q_ret1, q_expr, q_expr1, q_ifS, q_ifS1, q_ifS2, q_set, q_set1, q_asg, q_asg1, q_gname, q_gnil, q_gcons, q_gcons1, q_par, q_par1, q_aug, q_aug1, q_aug2, q_rng, q_iseq, q_iseq1, q_sd1, q_sd2, q_kP2, q_fro, q_fro1, q_for, q_for1, q_k0, q_k1, q_w0, q_w1, q_lc, q_lc2, q_n1, q_n0, q_run, bO_b, bO_v, bO_n, finB0, finB1, q_at0, q_at1, q_at2, q_at3, q_bs, q_bn, q_ms, q_mn, q_g0, q_gs, q_s0, q_ss, List.head?_cons, List.tail_cons, List.map_cons, List.map_nil, List.length_cons, List.length_nil, List.cons_append, List.nil_append, List.replicate_succ, List.replicate_zero, Nat.reduceSub, Nat.reduceAdd, Bool.false_xor, Bool.true_xor, Bool.not_true, Bool.not_false, beq_self_eq_true, isBool, isInt, isStr, isTuple, q_callI, if_true, ite_true, List.nodup_nil, List.nodup_cons, List.not_mem_nil, not_false_eq_true, and_true, true_and, and_self, q_fg0, q_fg1, q_fg2, q_fg3, q_fg4, q_fg5, q_fg6, q_lg0, q_lg1, q_lg2, q_lg3, q_lg4, q_lg5, q_sub, q_sub1, q_sub2, q_sub3, q_sub4, q_sub5, q_rng2, q_rng2a, q_aS, q_aS1, q_aS2, q_aS3, q_aS4, q_aS5, q_aS5', q_aS7, e1, q_rng1 (n62 (show p.n ≤ 1000 by omega)), Int.toNat_natCast, H1]
    | false =>
      simp only [Bool.false_eq_true, if_false] at H1
      simp only [q_var, q_var1, q_var2, q_mv, q_mv1, q_mv2, q_c, q_pr, q_bin, q_bin1, q_bin2, q_dv, q_do, q_tst, q_tst1, q_isN, q_isN0, q_isN1, q_isN2, q_isN3, q_isN4, q_isN5, q_and, q_and1, q_and2, q_or, q_or1, q_or2, q_not, q_not1, q_yes, q_andV, q_andV1, q_andV2, q_orV, q_orV1, q_orV2, q_notV, q_notV1, q_ifE, q_ifE1, q_ifE2, q_nil, q_cons, q_cons1, q_cons2, q_tup, q_tup1, q_lst, q_lst1, q_cb, q_cb1, q_lenV, q_lenV1, q_seq, q_seq1, q_sl, q_st, q_so, q_sb, q_sf, q_mu, q_mu1, q_mu2, q_muS, q_muS1, q_muS2, q_app, q_app1, q_app2, q_pop, q_pop1, q_rev, q_rev1, q_isi, q_isi1, q_inV, q_inV1, q_ixV, q_ixV1, q_ixV2, q_ixV3, q_ixL, q_ixT, q_kV, q_fI, q_addI, q_eqI, q_eqS, q_eqB, q_int, q_tupL, q_tupT, q_listL, q_listT, q_len1, q_len2, q_neg, q_neg1, q_call, q_call2, q_call3, q_call4, q_cnil, q_ccons, q_ccons1, q_ccons2, q_cb', q_cb'1, q_ar0, q_ar1, q_ar2, q_ar3, q_ar4, q_ar5, q_put0, q_put1, q_put2, q_put3, q_put4, q_put5, q_bix0, q_bix1, q_bix2, q_sq, q_sq1, q_sq2, q_sq3, q_sq4, q_snil, q_ret, q_ret1, q_expr, q_expr1, q_ifS, q_ifS1, q_ifS2, q_set, q_set1, q_asg, q_asg1, q_gname, q_gnil, q_gcons, q_gcons1, q_par, q_par1, q_aug, q_aug1, q_aug2, q_rng, q_iseq, q_iseq1, q_sd1, q_sd2, q_kP2, q_fro, q_fro1, q_for, q_for1, q_k0, q_k1, q_w0, q_w1, q_lc, q_lc2, q_n1, q_n0, q_run, bO_b, bO_v, bO_n, finB0, finB1, q_at0, q_at1, q_at2, q_at3, q_bs, q_bn, q_ms, q_mn, q_g0, q_gs, q_s0, q_ss, List.head?_cons, List.tail_cons, List.map_cons, List.map_nil, List.length_cons, List.length_nil, List.cons_append, List.nil_append, List.replicate_succ, List.replicate_zero, Nat.reduceSub, Nat.reduceAdd, Bool.false_xor, Bool.true_xor, Bool.not_true, Bool.not_false, beq_self_eq_true, isBool, isInt, isStr, isTuple, q_callI, if_true, ite_true, List.nodup_nil, List.nodup_cons, List.not_mem_nil, not_false_eq_true, and_true, true_and, and_self, q_fg0, q_fg1, q_fg2, q_fg3, q_fg4, q_fg5, q_fg6, q_lg0, q_lg1, q_lg2, q_lg3, q_lg4, q_lg5, q_sub, q_sub1, q_sub2, q_sub3, q_sub4, q_sub5, q_rng2, q_rng2a, q_aS, q_aS1, q_aS2, q_aS3, q_aS4, q_aS5, q_aS5', q_aS7, e1, q_rng1 (n62 (show p.n ≤ 1000 by omega)), Int.toNat_natCast, H1]
  · rw [decide_eq_true_iff, encN_len]
    have e4 : (0 : Int) < (s.length : Int) ↔ s ≠ [] := by
      constructor
      · intro h z; rw [z] at h; exact absurd h (by simp)
      · intro h; have := List.length_pos_iff.mpr h; omega
    rw [e4, e3]
    simp
/-! ### _law_along_row -/
def envV (p : Pg) (row : List Nat) (most b a : Nat) : En := [some (.val p.enc), some (.val (.tuple (encN row))), some (.val (.int (most : Int))), some (.val (.int (b : Int))), some (.val (.int (a : Int))), none, none, none]
def resV (p : Pg) (row : List Nat) (most : Nat) (d : D) (o : Option Out) : Prop := (∃ b a, o = some (.nx (envV p row most b a)) ∧ d = .tuple [.str "open", .int (most : Int)]) ∨ ∃ ρ, o = some (.rt (.val d) ρ) ∧ finB 3 ρ = [none, none, none]
theorem lal_step (p : Pg) (wf : p.Wf) (row : List Nat) (hrow : ∀ x ∈ row, x < 2) (hrl : row.length ≤ 1000) (most k b a : Nat) (hb : b < p.n) (ha : a ≤ row.length) :
    match alT p.W row k b a with
    | .inl d => ∃ ρ, w_Lalong_row_1 ((envV p row most b a).set 5 (some (.val (.int (k : Int))))) = some (.rt (.val d) ρ) ∧ finB 3 ρ = [none, none, none]
    | .inr (b', a') => b' < p.n ∧ a' ≤ row.length ∧ ∃ ρ2, w_Lalong_row_1 ((envV p row most b a).set 5 (some (.val (.int (k : Int))))) = some (.nx ρ2) ∧ killE [5, 6, 7] ρ2 = envV p row most b' a' := by
  have hlen : ((encN row).length : Int) = ((row.length : Nat) : Int) := by rw [encN_len]
  obtain ⟨e10, e20, e01, e21, e02, e12⟩ := dlen 0
  rcases W_cases p b with h | ⟨l, h⟩ | ⟨l, m, h⟩
  · unfold alT
    rw [h]
    have e : ((k : Int) + 1) = ((k + 1 : Nat) : Int) := by omega
    refine ⟨[some (.val p.enc), some (.val (.tuple (encN row))), some (.val (.int (most : Int))), some (.val (.int (b : Int))), some (.val (.int (a : Int))), some (.val (.int (k : Int))), some (.own (encN [])), none], ?_, rfl⟩
    unfold w_Lalong_row_1 envV
    have l0 : ((encN []).length : Int) = 0 := rfl
    simp only [q_var, q_var1, q_var2, q_mv, q_mv1, q_mv2, q_c, q_pr, q_bin, q_bin1, q_bin2, q_dv, q_do, q_tst, q_tst1, q_isN, q_isN0, q_isN1, q_isN2, q_isN3, q_isN4, q_isN5, q_and, q_and1, q_and2, q_or, q_or1, q_or2, q_not, q_not1, q_yes, q_andV, q_andV1, q_andV2, q_orV, q_orV1, q_orV2, q_notV, q_notV1, q_ifE, q_ifE1, q_ifE2, q_nil, q_cons, q_cons1, q_cons2, q_tup, q_tup1, q_lst, q_lst1, q_cb, q_cb1, q_lenV, q_lenV1, q_seq, q_seq1, q_sl, q_st, q_so, q_sb, q_sf, q_mu, q_mu1, q_mu2, q_muS, q_muS1, q_muS2, q_app, q_app1, q_app2, q_pop, q_pop1, q_rev, q_rev1, q_isi, q_isi1, q_inV, q_inV1, q_ixV, q_ixV1, q_ixV2, q_ixV3, q_ixL, q_ixT, q_kV, q_fI, q_addI, q_eqI, q_eqS, q_eqB, q_int, q_tupL, q_tupT, q_listL, q_listT, q_len1, q_len2, q_neg, q_neg1, q_call, q_call2, q_call3, q_call4, q_cnil, q_ccons, q_ccons1, q_ccons2, q_cb', q_cb'1, q_ar0, q_ar1, q_ar2, q_ar3, q_ar4, q_ar5, q_put0, q_put1, q_put2, q_put3, q_put4, q_put5, q_bix0, q_bix1, q_bix2, q_sq, q_sq1, q_sq2, q_sq3, q_sq4, q_snil, q_ret, q_ret1, q_expr, q_expr1, q_ifS, q_ifS1, q_ifS2, q_set, q_set1, q_asg, q_asg1, q_gname, q_gnil, q_gcons, q_gcons1, q_par, q_par1, q_aug, q_aug1, q_aug2, q_rng, q_iseq, q_iseq1, q_sd1, q_sd2, q_kP2, q_fro, q_fro1, q_for, q_for1, q_k0, q_k1, q_w0, q_w1, q_lc, q_lc2, q_n1, q_n0, q_run, bO_b, bO_v, bO_n, finB0, finB1, q_at0, q_at1, q_at2, q_at3, q_bs, q_bn, q_ms, q_mn, q_g0, q_gs, q_s0, q_ss, List.head?_cons, List.tail_cons, List.map_cons, List.map_nil, List.length_cons, List.length_nil, List.cons_append, List.nil_append, List.replicate_succ, List.replicate_zero, Nat.reduceSub, Nat.reduceAdd, Bool.false_xor, Bool.true_xor, Bool.not_true, Bool.not_false, beq_self_eq_true, isBool, isInt, isStr, isTuple, q_callI, if_true, ite_true, List.nodup_nil, List.nodup_cons, List.not_mem_nil, not_false_eq_true, and_true, true_and, and_self, q_fg0, q_fg1, q_fg2, q_fg3, q_fg4, q_fg5, q_fg6, q_lg0, q_lg1, q_lg2, q_lg3, q_lg4, q_lg5, q_sub, q_sub1, q_sub2, q_sub3, q_sub4, q_sub5, q_rng2, q_rng2a, q_aS, q_aS1, q_aS2, q_aS3, q_aS4, q_aS5, q_aS5', q_aS7, lways_eq hb, h, l0, e]
  · unfold alT
    rw [h]
    refine ⟨wf.go b l (by rw [h]; simp), ha, [some (.val p.enc), some (.val (.tuple (encN row))), some (.val (.int (most : Int))), some (.val (.int (l : Int))), some (.val (.int (a : Int))), some (.val (.int (k : Int))), some (.own (encN [l])), some (.val (.int 1))], ?_, rfl⟩
    unfold w_Lalong_row_1 envV
    have l0 : ((encN [l]).length : Int) = 1 := rfl
    have l3 : atI (encN [l]) 0 = some (.int (l : Int)) := rfl
    simp only [q_var, q_var1, q_var2, q_mv, q_mv1, q_mv2, q_c, q_pr, q_bin, q_bin1, q_bin2, q_dv, q_do, q_tst, q_tst1, q_isN, q_isN0, q_isN1, q_isN2, q_isN3, q_isN4, q_isN5, q_and, q_and1, q_and2, q_or, q_or1, q_or2, q_not, q_not1, q_yes, q_andV, q_andV1, q_andV2, q_orV, q_orV1, q_orV2, q_notV, q_notV1, q_ifE, q_ifE1, q_ifE2, q_nil, q_cons, q_cons1, q_cons2, q_tup, q_tup1, q_lst, q_lst1, q_cb, q_cb1, q_lenV, q_lenV1, q_seq, q_seq1, q_sl, q_st, q_so, q_sb, q_sf, q_mu, q_mu1, q_mu2, q_muS, q_muS1, q_muS2, q_app, q_app1, q_app2, q_pop, q_pop1, q_rev, q_rev1, q_isi, q_isi1, q_inV, q_inV1, q_ixV, q_ixV1, q_ixV2, q_ixV3, q_ixL, q_ixT, q_kV, q_fI, q_addI, q_eqI, q_eqS, q_eqB, q_int, q_tupL, q_tupT, q_listL, q_listT, q_len1, q_len2, q_neg, q_neg1, q_call, q_call2, q_call3, q_call4, q_cnil, q_ccons, q_ccons1, q_ccons2, q_cb', q_cb'1, q_ar0, q_ar1, q_ar2, q_ar3, q_ar4, q_ar5, q_put0, q_put1, q_put2, q_put3, q_put4, q_put5, q_bix0, q_bix1, q_bix2, q_sq, q_sq1, q_sq2, q_sq3, q_sq4, q_snil, q_ret, q_ret1, q_expr, q_expr1, q_ifS, q_ifS1, q_ifS2, q_set, q_set1, q_asg, q_asg1, q_gname, q_gnil, q_gcons, q_gcons1, q_par, q_par1, q_aug, q_aug1, q_aug2, q_rng, q_iseq, q_iseq1, q_sd1, q_sd2, q_kP2, q_fro, q_fro1, q_for, q_for1, q_k0, q_k1, q_w0, q_w1, q_lc, q_lc2, q_n1, q_n0, q_run, bO_b, bO_v, bO_n, finB0, finB1, q_at0, q_at1, q_at2, q_at3, q_bs, q_bn, q_ms, q_mn, q_g0, q_gs, q_s0, q_ss, List.head?_cons, List.tail_cons, List.map_cons, List.map_nil, List.length_cons, List.length_nil, List.cons_append, List.nil_append, List.replicate_succ, List.replicate_zero, Nat.reduceSub, Nat.reduceAdd, Bool.false_xor, Bool.true_xor, Bool.not_true, Bool.not_false, beq_self_eq_true, isBool, isInt, isStr, isTuple, q_callI, if_true, ite_true, List.nodup_nil, List.nodup_cons, List.not_mem_nil, not_false_eq_true, and_true, true_and, and_self, q_fg0, q_fg1, q_fg2, q_fg3, q_fg4, q_fg5, q_fg6, q_lg0, q_lg1, q_lg2, q_lg3, q_lg4, q_lg5, q_sub, q_sub1, q_sub2, q_sub3, q_sub4, q_sub5, q_rng2, q_rng2a, q_aS, q_aS1, q_aS2, q_aS3, q_aS4, q_aS5, q_aS5', q_aS7, lways_eq hb, h, l0, e10, e12, l3]
  · unfold alT
    rw [h]
    have l0 : ((encN [l, m]).length : Int) = 2 := rfl
    by_cases hal : a = row.length
    · simp only [hal, if_true]
      refine ⟨[some (.val p.enc), some (.val (.tuple (encN row))), some (.val (.int (most : Int))), some (.val (.int (b : Int))), some (.val (.int ((row.length : Nat) : Int))), some (.val (.int (k : Int))), some (.own (encN [l, m])), some (.val (.int 1))], ?_, rfl⟩
      unfold w_Lalong_row_1 envV
      simp only [q_var, q_var1, q_var2, q_mv, q_mv1, q_mv2, q_c, q_pr, q_bin, q_bin1, q_bin2, q_dv, q_do, q_tst, q_tst1, q_isN, q_isN0, q_isN1, q_isN2, q_isN3, q_isN4, q_isN5, q_and, q_and1, q_and2, q_or, q_or1, q_or2, q_not, q_not1, q_yes, q_andV, q_andV1, q_andV2, q_orV, q_orV1, q_orV2, q_notV, q_notV1, q_ifE, q_ifE1, q_ifE2, q_nil, q_cons, q_cons1, q_cons2, q_tup, q_tup1, q_lst, q_lst1, q_cb, q_cb1, q_lenV, q_lenV1, q_seq, q_seq1, q_sl, q_st, q_so, q_sb, q_sf, q_mu, q_mu1, q_mu2, q_muS, q_muS1, q_muS2, q_app, q_app1, q_app2, q_pop, q_pop1, q_rev, q_rev1, q_isi, q_isi1, q_inV, q_inV1, q_ixV, q_ixV1, q_ixV2, q_ixV3, q_ixL, q_ixT, q_kV, q_fI, q_addI, q_eqI, q_eqS, q_eqB, q_int, q_tupL, q_tupT, q_listL, q_listT, q_len1, q_len2, q_neg, q_neg1, q_call, q_call2, q_call3, q_call4, q_cnil, q_ccons, q_ccons1, q_ccons2, q_cb', q_cb'1, q_ar0, q_ar1, q_ar2, q_ar3, q_ar4, q_ar5, q_put0, q_put1, q_put2, q_put3, q_put4, q_put5, q_bix0, q_bix1, q_bix2, q_sq, q_sq1, q_sq2, q_sq3, q_sq4, q_snil, q_ret, q_ret1, q_expr, q_expr1, q_ifS, q_ifS1, q_ifS2, q_set, q_set1, q_asg, q_asg1, q_gname, q_gnil, q_gcons, q_gcons1, q_par, q_par1, q_aug, q_aug1, q_aug2, q_rng, q_iseq, q_iseq1, q_sd1, q_sd2, q_kP2, q_fro, q_fro1, q_for, q_for1, q_k0, q_k1, q_w0, q_w1, q_lc, q_lc2, q_n1, q_n0, q_run, bO_b, bO_v, bO_n, finB0, finB1, q_at0, q_at1, q_at2, q_at3, q_bs, q_bn, q_ms, q_mn, q_g0, q_gs, q_s0, q_ss, List.head?_cons, List.tail_cons, List.map_cons, List.map_nil, List.length_cons, List.length_nil, List.cons_append, List.nil_append, List.replicate_succ, List.replicate_zero, Nat.reduceSub, Nat.reduceAdd, Bool.false_xor, Bool.true_xor, Bool.not_true, Bool.not_false, beq_self_eq_true, isBool, isInt, isStr, isTuple, q_callI, if_true, ite_true, List.nodup_nil, List.nodup_cons, List.not_mem_nil, not_false_eq_true, and_true, true_and, and_self, q_fg0, q_fg1, q_fg2, q_fg3, q_fg4, q_fg5, q_fg6, q_lg0, q_lg1, q_lg2, q_lg3, q_lg4, q_lg5, q_sub, q_sub1, q_sub2, q_sub3, q_sub4, q_sub5, q_rng2, q_rng2a, q_aS, q_aS1, q_aS2, q_aS3, q_aS4, q_aS5, q_aS5', q_aS7, lways_eq hb, h, l0, e20, hlen]
    · simp only [hal, if_false]
      have hne : ((a : Int) == ((row.length : Nat) : Int)) = false := by rw [beq_eq_false_iff_ne]; omega
      have h1 := at_encN (l := row) (k := a) (by omega)
      have hx : row.getD a 0 < 2 := by
        rw [List.getD_eq_getElem?_getD, List.getElem?_eq_getElem (show a < row.length by omega)]
        exact hrow _ (List.getElem_mem _)
      have e : ((a : Int) + 1) = ((a + 1 : Nat) : Int) := by omega
      refine ⟨?_, by omega, [some (.val p.enc), some (.val (.tuple (encN row))), some (.val (.int (most : Int))), some (.val (.int ((if row.getD a 0 = 1 then l else m : Nat) : Int))), some (.val (.int ((a + 1 : Nat) : Int))), some (.val (.int (k : Int))), some (.own (encN [l, m])), some (.val (.int ((row.getD a 0 : Nat) : Int)))], ?_, rfl⟩
      · split
        · exact wf.go b l (by rw [h]; simp)
        · exact wf.go b m (by rw [h]; simp)
      · unfold w_Lalong_row_1 envV
        have h0 : row.getD a 0 = 0 ∨ row.getD a 0 = 1 := by omega
        have l3 : atI (encN [l, m]) 1 = some (.int (m : Int)) := rfl
        have l4 : atI (encN [l, m]) 0 = some (.int (l : Int)) := rfl
        have c0 : (((0 : Nat) : Int) == 1) = false := by decide
        have c1 : (((1 : Nat) : Int) == 1) = true := by decide
        rcases h0 with h0 | h0
        · rw [h0] at h1 ⊢
          simp only [q_var, q_var1, q_var2, q_mv, q_mv1, q_mv2, q_c, q_pr, q_bin, q_bin1, q_bin2, q_dv, q_do, q_tst, q_tst1, q_isN, q_isN0, q_isN1, q_isN2, q_isN3, q_isN4, q_isN5, q_and, q_and1, q_and2, q_or, q_or1, q_or2, q_not, q_not1, q_yes, q_andV, q_andV1, q_andV2, q_orV, q_orV1, q_orV2, q_notV, q_notV1, q_ifE, q_ifE1, q_ifE2, q_nil, q_cons, q_cons1, q_cons2, q_tup, q_tup1, q_lst, q_lst1, q_cb, q_cb1, q_lenV, q_lenV1, q_seq, q_seq1, q_sl, q_st, q_so, q_sb, q_sf, q_mu, q_mu1, q_mu2, q_muS, q_muS1, q_muS2, q_app, q_app1, q_app2, q_pop, q_pop1, q_rev, q_rev1, q_isi, q_isi1, q_inV, q_inV1, q_ixV, q_ixV1, q_ixV2, q_ixV3, q_ixL, q_ixT, q_kV, q_fI, q_addI, q_eqI, q_eqS, q_eqB, q_int, q_tupL, q_tupT, q_listL, q_listT, q_len1, q_len2, q_neg, q_neg1, q_call, q_call2, q_call3, q_call4, q_cnil, q_ccons, q_ccons1, q_ccons2, q_cb', q_cb'1, q_ar0, q_ar1, q_ar2, q_ar3, q_ar4, q_ar5, q_put0, q_put1, q_put2, q_put3, q_put4, q_put5, q_bix0, q_bix1, q_bix2, q_sq, q_sq1, q_sq2, q_sq3, q_sq4, q_snil, q_ret, q_ret1, q_expr, q_expr1, q_ifS, q_ifS1, q_ifS2, q_set, q_set1, q_asg, q_asg1, q_gname, q_gnil, q_gcons, q_gcons1, q_par, q_par1, q_aug, q_aug1, q_aug2, q_rng, q_iseq, q_iseq1, q_sd1, q_sd2, q_kP2, q_fro, q_fro1, q_for, q_for1, q_k0, q_k1, q_w0, q_w1, q_lc, q_lc2, q_n1, q_n0, q_run, bO_b, bO_v, bO_n, finB0, finB1, q_at0, q_at1, q_at2, q_at3, q_bs, q_bn, q_ms, q_mn, q_g0, q_gs, q_s0, q_ss, List.head?_cons, List.tail_cons, List.map_cons, List.map_nil, List.length_cons, List.length_nil, List.cons_append, List.nil_append, List.replicate_succ, List.replicate_zero, Nat.reduceSub, Nat.reduceAdd, Bool.false_xor, Bool.true_xor, Bool.not_true, Bool.not_false, beq_self_eq_true, isBool, isInt, isStr, isTuple, q_callI, if_true, ite_true, List.nodup_nil, List.nodup_cons, List.not_mem_nil, not_false_eq_true, and_true, true_and, and_self, q_fg0, q_fg1, q_fg2, q_fg3, q_fg4, q_fg5, q_fg6, q_lg0, q_lg1, q_lg2, q_lg3, q_lg4, q_lg5, q_sub, q_sub1, q_sub2, q_sub3, q_sub4, q_sub5, q_rng2, q_rng2a, q_aS, q_aS1, q_aS2, q_aS3, q_aS4, q_aS5, q_aS5', q_aS7, lways_eq hb, h, l0, e20, hlen, hne, h1, l3, e, c0, show ¬ ((0 : Nat) = 1) by omega, if_false]
        · rw [h0] at h1 ⊢
          simp only [q_var, q_var1, q_var2, q_mv, q_mv1, q_mv2, q_c, q_pr, q_bin, q_bin1, q_bin2, q_dv, q_do, q_tst, q_tst1, q_isN, q_isN0, q_isN1, q_isN2, q_isN3, q_isN4, q_isN5, q_and, q_and1, q_and2, q_or, q_or1, q_or2, q_not, q_not1, q_yes, q_andV, q_andV1, q_andV2, q_orV, q_orV1, q_orV2, q_notV, q_notV1, q_ifE, q_ifE1, q_ifE2, q_nil, q_cons, q_cons1, q_cons2, q_tup, q_tup1, q_lst, q_lst1, q_cb, q_cb1, q_lenV, q_lenV1, q_seq, q_seq1, q_sl, q_st, q_so, q_sb, q_sf, q_mu, q_mu1, q_mu2, q_muS, q_muS1, q_muS2, q_app, q_app1, q_app2, q_pop, q_pop1, q_rev, q_rev1, q_isi, q_isi1, q_inV, q_inV1, q_ixV, q_ixV1, q_ixV2, q_ixV3, q_ixL, q_ixT, q_kV, q_fI, q_addI, q_eqI, q_eqS, q_eqB, q_int, q_tupL, q_tupT, q_listL, q_listT, q_len1, q_len2, q_neg, q_neg1, q_call, q_call2, q_call3, q_call4, q_cnil, q_ccons, q_ccons1, q_ccons2, q_cb', q_cb'1, q_ar0, q_ar1, q_ar2, q_ar3, q_ar4, q_ar5, q_put0, q_put1, q_put2, q_put3, q_put4, q_put5, q_bix0, q_bix1, q_bix2, q_sq, q_sq1, q_sq2, q_sq3, q_sq4, q_snil, q_ret, q_ret1, q_expr, q_expr1, q_ifS, q_ifS1, q_ifS2, q_set, q_set1, q_asg, q_asg1, q_gname, q_gnil, q_gcons, q_gcons1, q_par, q_par1, q_aug, q_aug1, q_aug2, q_rng, q_iseq, q_iseq1, q_sd1, q_sd2, q_kP2, q_fro, q_fro1, q_for, q_for1, q_k0, q_k1, q_w0, q_w1, q_lc, q_lc2, q_n1, q_n0, q_run, bO_b, bO_v, bO_n, finB0, finB1, q_at0, q_at1, q_at2, q_at3, q_bs, q_bn, q_ms, q_mn, q_g0, q_gs, q_s0, q_ss, List.head?_cons, List.tail_cons, List.map_cons, List.map_nil, List.length_cons, List.length_nil, List.cons_append, List.nil_append, List.replicate_succ, List.replicate_zero, Nat.reduceSub, Nat.reduceAdd, Bool.false_xor, Bool.true_xor, Bool.not_true, Bool.not_false, beq_self_eq_true, isBool, isInt, isStr, isTuple, q_callI, if_true, ite_true, List.nodup_nil, List.nodup_cons, List.not_mem_nil, not_false_eq_true, and_true, true_and, and_self, q_fg0, q_fg1, q_fg2, q_fg3, q_fg4, q_fg5, q_fg6, q_lg0, q_lg1, q_lg2, q_lg3, q_lg4, q_lg5, q_sub, q_sub1, q_sub2, q_sub3, q_sub4, q_sub5, q_rng2, q_rng2a, q_aS, q_aS1, q_aS2, q_aS3, q_aS4, q_aS5, q_aS5', q_aS7, lways_eq hb, h, l0, e20, hlen, hne, h1, l4, e, c1]
theorem lal_go (p : Pg) (wf : p.Wf) (row : List Nat) (hrow : ∀ x ∈ row, x < 2) (hrl : row.length ≤ 1000) (most : Nat) : ∀ (ks : List Nat) (b a : Nat), b < p.n → a ≤ row.length →
    resV p row most (alG p.W row most ks b a) (forGo (rgName 5) w_Lalong_row_1 [5, 6, 7] (ks.map fun (k : Nat) => PyData.int (k : Int)) (envV p row most b a))
  | [], b, a, _, _ => .inl ⟨b, a, rfl, rfl⟩
  | k :: ks, b, a, hb, ha => by
    have h := lal_step p wf row hrow hrl most k b a hb ha
    rw [List.map_cons, q_fg1, q_gname, q_bs, q_fg2]
    unfold alG
    cases e : alT p.W row k b a with
    | inl d =>
      rw [e] at h
      obtain ⟨ρ, h1, h2⟩ := h
      rw [h1, q_bs, q_fg6]
      exact .inr ⟨ρ, rfl, h2⟩
    | inr s =>
      obtain ⟨b', a'⟩ := s
      rw [e] at h
      obtain ⟨hb', ha', ρ2, h1, h2⟩ := h
      rw [h1, q_bs, q_fg3, h2]
      exact lal_go p wf row hrow hrl most ks b' a' hb' ha'
theorem lalong_eq (p : Pg) (wf : p.Wf) (row : List Nat) (hrow : ∀ x ∈ row, x < 2) (hrl : row.length ≤ 1000) (most : Nat) (hm : most ≤ 1000) :
    f_Lalong_row [.val p.enc, .val (.tuple (encN row)), .val (.int (most : Int))] = some (.val (alG p.W row most (List.range most) 0 0), [none, none, none]) := by
  have H := lal_go p wf row hrow hrl most (List.range most) 0 0 wf.pos (Nat.zero_le _)
  rw [← rng0] at H
  unfold f_Lalong_row b_Lalong_row
  unfold resV envV at H
  simp only [show ((0 : Nat) : Int) = 0 from rfl] at H
  rcases H with ⟨b, a, h1, h2⟩ | ⟨ρ, h1, h2⟩
  · rw [h2]
    simp only [q_var, q_var1, q_var2, q_mv, q_mv1, q_mv2, q_c, q_pr, q_bin, q_bin1, q_bin2, q_dv, q_do, q_tst, q_tst1, q_isN, q_isN0, q_isN1, q_isN2, q_isN3, q_isN4, q_isN5, q_and, q_and1, q_and2, q_or, q_or1, q_or2, q_not, q_not1, q_yes, q_andV, q_andV1, q_andV2, q_orV, q_orV1, q_orV2, q_notV, q_notV1, q_ifE, q_ifE1, q_ifE2, q_nil, q_cons, q_cons1, q_cons2, q_tup, q_tup1, q_lst, q_lst1, q_cb, q_cb1, q_lenV, q_lenV1, q_seq, q_seq1, q_sl, q_st, q_so, q_sb, q_sf, q_mu, q_mu1, q_mu2, q_muS, q_muS1, q_muS2, q_app, q_app1, q_app2, q_pop, q_pop1, q_rev, q_rev1, q_isi, q_isi1, q_inV, q_inV1, q_ixV, q_ixV1, q_ixV2, q_ixV3, q_ixL, q_ixT, q_kV, q_fI, q_addI, q_eqI, q_eqS, q_eqB, q_int, q_tupL, q_tupT, q_listL, q_listT, q_len1, q_len2, q_neg, q_neg1, q_call, q_call2, q_call3, q_call4, q_cnil, q_ccons, q_ccons1, q_ccons2, q_cb', q_cb'1, q_ar0, q_ar1, q_ar2, q_ar3, q_ar4, q_ar5, q_put0, q_put1, q_put2, q_put3, q_put4, q_put5, q_bix0, q_bix1, q_bix2, q_sq, q_sq1, q_sq2, q_sq3, q_sq4, q_snil, q_ret, q_ret1, q_expr, q_expr1, q_ifS, q_ifS1, q_ifS2, q_set, q_set1, q_asg, q_asg1, q_gname, q_gnil, q_gcons, q_gcons1, q_par, q_par1, q_aug, q_aug1, q_aug2, q_rng, q_iseq, q_iseq1, q_sd1, q_sd2, q_kP2, q_fro, q_fro1, q_for, q_for1, q_k0, q_k1, q_w0, q_w1, q_lc, q_lc2, q_n1, q_n0, q_run, bO_b, bO_v, bO_n, finB0, finB1, q_at0, q_at1, q_at2, q_at3, q_bs, q_bn, q_ms, q_mn, q_g0, q_gs, q_s0, q_ss, List.head?_cons, List.tail_cons, List.map_cons, List.map_nil, List.length_cons, List.length_nil, List.cons_append, List.nil_append, List.replicate_succ, List.replicate_zero, Nat.reduceSub, Nat.reduceAdd, Bool.false_xor, Bool.true_xor, Bool.not_true, Bool.not_false, beq_self_eq_true, isBool, isInt, isStr, isTuple, q_callI, if_true, ite_true, List.nodup_nil, List.nodup_cons, List.not_mem_nil, not_false_eq_true, and_true, true_and, and_self, q_fg0, q_fg1, q_fg2, q_fg3, q_fg4, q_fg5, q_fg6, q_lg0, q_lg1, q_lg2, q_lg3, q_lg4, q_lg5, q_sub, q_sub1, q_sub2, q_sub3, q_sub4, q_sub5, q_rng2, q_rng2a, q_aS, q_aS1, q_aS2, q_aS3, q_aS4, q_aS5, q_aS5', q_aS7, q_rng1 (n62 hm), Int.toNat_natCast, h1]
  · simp only [q_var, q_var1, q_var2, q_mv, q_mv1, q_mv2, q_c, q_pr, q_bin, q_bin1, q_bin2, q_dv, q_do, q_tst, q_tst1, q_isN, q_isN0, q_isN1, q_isN2, q_isN3, q_isN4, q_isN5, q_and, q_and1, q_and2, q_or, q_or1, q_or2, q_not, q_not1, q_yes, q_andV, q_andV1, q_andV2, q_orV, q_orV1, q_orV2, q_notV, q_notV1, q_ifE, q_ifE1, q_ifE2, q_nil, q_cons, q_cons1, q_cons2, q_tup, q_tup1, q_lst, q_lst1, q_cb, q_cb1, q_lenV, q_lenV1, q_seq, q_seq1, q_sl, q_st, q_so, q_sb, q_sf, q_mu, q_mu1, q_mu2, q_muS, q_muS1, q_muS2, q_app, q_app1, q_app2, q_pop, q_pop1, q_rev, q_rev1, q_isi, q_isi1, q_inV, q_inV1, q_ixV, q_ixV1, q_ixV2, q_ixV3, q_ixL, q_ixT, q_kV, q_fI, q_addI, q_eqI, q_eqS, q_eqB, q_int, q_tupL, q_tupT, q_listL, q_listT, q_len1, q_len2, q_neg, q_neg1, q_call, q_call2, q_call3, q_call4, q_cnil, q_ccons, q_ccons1, q_ccons2, q_cb', q_cb'1, q_ar0, q_ar1, q_ar2, q_ar3, q_ar4, q_ar5, q_put0, q_put1, q_put2, q_put3, q_put4, q_put5, q_bix0, q_bix1, q_bix2, q_sq, q_sq1, q_sq2, q_sq3, q_sq4, q_snil, q_ret, q_ret1, q_expr, q_expr1, q_ifS, q_ifS1, q_ifS2, q_set, q_set1, q_asg, q_asg1, q_gname, q_gnil, q_gcons, q_gcons1, q_par, q_par1, q_aug, q_aug1, q_aug2, q_rng, q_iseq, q_iseq1, q_sd1, q_sd2, q_kP2, q_fro, q_fro1, q_for, q_for1, q_k0, q_k1, q_w0, q_w1, q_lc, q_lc2, q_n1, q_n0, q_run, bO_b, bO_v, bO_n, finB0, finB1, q_at0, q_at1, q_at2, q_at3, q_bs, q_bn, q_ms, q_mn, q_g0, q_gs, q_s0, q_ss, List.head?_cons, List.tail_cons, List.map_cons, List.map_nil, List.length_cons, List.length_nil, List.cons_append, List.nil_append, List.replicate_succ, List.replicate_zero, Nat.reduceSub, Nat.reduceAdd, Bool.false_xor, Bool.true_xor, Bool.not_true, Bool.not_false, beq_self_eq_true, isBool, isInt, isStr, isTuple, q_callI, if_true, ite_true, List.nodup_nil, List.nodup_cons, List.not_mem_nil, not_false_eq_true, and_true, true_and, and_self, q_fg0, q_fg1, q_fg2, q_fg3, q_fg4, q_fg5, q_fg6, q_lg0, q_lg1, q_lg2, q_lg3, q_lg4, q_lg5, q_sub, q_sub1, q_sub2, q_sub3, q_sub4, q_sub5, q_rng2, q_rng2a, q_aS, q_aS1, q_aS2, q_aS3, q_aS4, q_aS5, q_aS5', q_aS7, q_rng1 (n62 hm), Int.toNat_natCast, h1, h2]
theorem al_sm (W : Nat → List Nat) (row : List Nat) (most : Nat) : ∀ (ks : List Nat) (b a : Nat), Sm 12 (alG W row most ks b a)
  | [], b, a => .t 11 _ (fun d h => by
      rcases List.mem_cons.mp h with rfl | h
      · exact .s _ _
      · have : d = .int (most : Int) := by simpa using h
        subst this
        exact .i _ _) (by simp)
  | k :: ks, b, a => by
    unfold alG alT
    have hp : ∀ (x : Str) (y : Int), Sm 12 (.tuple [.str x, .int y]) := fun x y => .t 11 _ (fun d h => by
      rcases List.mem_cons.mp h with rfl | h
      · exact .s _ _
      · have : d = .int y := by simpa using h
        subst this
        exact .i _ _) (by simp)
    split
    · rename_i d e
      split at e
      · cases e; exact hp _ _
      · cases e
      · split at e
        · cases e; exact hp _ _
        · cases e
    · exact al_sm W row most ks _ _
end K50

set_option Elab.async false
set_option linter.all false
set_option maxRecDepth 100000
set_option maxHeartbeats 4000000
namespace K50
open PySem L2 DL
/-! draws as naturals -/
def tn (dr : List Int) (n : Nat) : Nat := (tk dr (n : Int)).toNat
theorem tn_lt (dr : List Int) {n : Nat} (h : 0 < n) : tn dr n < n := by
  have := tk_nn dr (n := (n : Int)) (by omega)
  unfold tn
  omega
theorem take_n (dr : List Int) {n : Nat} (h : 0 < n) : f_Ltake [.bor (E dr), .val (.int (n : Int))] = some (.val (.int ((tn dr n : Nat) : Int)), [some (.bor (E dr.tail)), none]) := by
  have := tk_nn dr (n := (n : Int)) (by omega)
  rw [take_eq dr n (by omega)]
  unfold tn
  rw [Int.toNat_of_nonneg this.1]
theorem answers_eq (dr : List Int) : ∃ dr' row, f_Lanswers [.bor (E dr), .val (.int 6)] = some (.val (.tuple (encN row)), [some (.bor (E dr')), none]) ∧ row.length ≤ 6 ∧ ∀ x ∈ row, x < 2 := by
  have ht := take_n dr (n := 7) (by omega)
  have hlt := tn_lt dr (n := 7) (by omega)
  simp only [show ((7 : Nat) : Int) = 7 from rfl] at ht
  have H := lc_state (g := rgName 2) (t := e_Lanswers_1) (vs := [2]) (fun (n : Nat) => PyData.int (n : Int)) (fun n acc ρ => ∃ dr' row, acc = encN row ∧ row.length = n ∧ (∀ x ∈ row, x < 2) ∧ ρ = [some (.bor (E dr')), some (.val (.int 6)), none])
    (List.range (tn dr 7)) [] [some (.bor (E dr.tail)), some (.val (.int 6)), none] 0 ⟨dr.tail, [], rfl, rfl, fun x h => (List.not_mem_nil h).elim, rfl⟩ fun i a acc ρ _ h => by
      obtain ⟨dr', row, h1, h2, h3, h4⟩ := h
      subst h4
      have ht := take_n dr' (n := 2) (by omega)
      have hlt := tn_lt dr' (n := 2) (by omega)
      simp only [show ((2 : Nat) : Int) = 2 from rfl] at ht
      refine ⟨[some (.bor (E dr')), some (.val (.int 6)), some (.val (.int (a : Int)))], .val (.int ((tn dr' 2 : Nat) : Int)), [some (.bor (E dr'.tail)), some (.val (.int 6)), some (.val (.int (a : Int)))], rfl, ?_, dr'.tail, row ++ [tn dr' 2], ?_, ?_, ?_, rfl⟩
      · unfold e_Lanswers_1
        simp only [q_var, q_var1, q_var2, q_mv, q_mv1, q_mv2, q_c, q_pr, q_bin, q_bin1, q_bin2, q_dv, q_do, q_tst, q_tst1, q_isN, q_isN0, q_isN1, q_isN2, q_isN3, q_isN4, q_isN5, q_and, q_and1, q_and2, q_or, q_or1, q_or2, q_not, q_not1, q_yes, q_andV, q_andV1, q_andV2, q_orV, q_orV1, q_orV2, q_notV, q_notV1, q_ifE, q_ifE1, q_ifE2, q_nil, q_cons, q_cons1, q_cons2, q_tup, q_tup1, q_lst, q_lst1, q_cb, q_cb1, q_lenV, q_lenV1, q_seq, q_seq1, q_sl, q_st, q_so, q_sb, q_sf, q_mu, q_mu1, q_mu2, q_muS, q_muS1, q_muS2, q_app, q_app1, q_app2, q_pop, q_pop1, q_rev, q_rev1, q_isi, q_isi1, q_inV, q_inV1, q_ixV, q_ixV1, q_ixV2, q_ixV3, q_ixL, q_ixT, q_kV, q_fI, q_addI, q_eqI, q_eqS, q_eqB, q_int, q_tupL, q_tupT, q_listL, q_listT, q_len1, q_len2, q_neg, q_neg1, q_call, q_call2, q_call3, q_call4, q_cnil, q_ccons, q_ccons1, q_ccons2, q_cb', q_cb'1, q_ar0, q_ar1, q_ar2, q_ar3, q_ar4, q_ar5, q_put0, q_put1, q_put2, q_put3, q_put4, q_put5, q_bix0, q_bix1, q_bix2, q_sq, q_sq1, q_sq2, q_sq3, q_sq4, q_snil, q_ret, q_ret1, q_expr, q_expr1, q_ifS, q_ifS1, q_ifS2, q_set, q_set1, q_asg, q_asg1, q_gname, q_gnil, q_gcons, q_gcons1, q_par, q_par1, q_aug, q_aug1, q_aug2, q_rng, q_iseq, q_iseq1, q_sd1, q_sd2, q_kP2, q_fro, q_fro1, q_for, q_for1, q_k0, q_k1, q_w0, q_w1, q_lc, q_lc2, q_n1, q_n0, q_run, bO_b, bO_v, bO_n, finB0, finB1, q_at0, q_at1, q_at2, q_at3, q_bs, q_bn, q_ms, q_mn, q_g0, q_gs, q_s0, q_ss, List.head?_cons, List.tail_cons, List.map_cons, List.map_nil, List.length_cons, List.length_nil, List.cons_append, List.nil_append, List.replicate_succ, List.replicate_zero, Nat.reduceSub, Nat.reduceAdd, Bool.false_xor, Bool.true_xor, Bool.not_true, Bool.not_false, beq_self_eq_true, isBool, isInt, isStr, isTuple, q_callI, if_true, ite_true, List.nodup_nil, List.nodup_cons, List.not_mem_nil, not_false_eq_true, and_true, true_and, and_self, q_fg0, q_fg1, q_fg2, q_fg3, q_fg4, q_fg5, q_fg6, q_lg0, q_lg1, q_lg2, q_lg3, q_lg4, q_lg5, q_sub, q_sub1, q_sub2, q_sub3, q_sub4, q_sub5, q_rng2, q_rng2a, q_aS, q_aS1, q_aS2, q_aS3, q_aS4, q_aS5, q_aS5', q_aS7, ht]
      · rw [encN_app, h1]; rfl
      · rw [List.length_append, h2]; rfl
      · intro x hx
        rcases List.mem_append.mp hx with hx | hx
        · exact h3 x hx
        · have : x = tn dr' 2 := by simpa using hx
          omega
  obtain ⟨acc', ρ', H1, dr', row, h1, h2, h3, h4⟩ := H
  rw [← rng0] at H1
  subst h1
  subst h4
  rw [List.length_range, Nat.zero_add] at h2
  refine ⟨dr', row, ?_, by omega, h3⟩
  unfold f_Lanswers b_Lanswers
  have hl : (rng 0 (tn dr 7)).length ≤ sizeLine := by rw [rng0, List.length_map, List.length_range]; exact sz_le (by omega)
  simp only [q_var, q_var1, q_var2, q_mv, q_mv1, q_mv2, q_c, q_pr, q_bin, q_bin1, q_bin2, q_dv, q_do, q_tst, q_tst1, q_isN, q_isN0, q_isN1, q_isN2, q_isN3, q_isN4, q_isN5, q_and, q_and1, q_and2, q_or, q_or1, q_or2, q_not, q_not1, q_yes, q_andV, q_andV1, q_andV2, q_orV, q_orV1, q_orV2, q_notV, q_notV1, q_ifE, q_ifE1, q_ifE2, q_nil, q_cons, q_cons1, q_cons2, q_tup, q_tup1, q_lst, q_lst1, q_cb, q_cb1, q_lenV, q_lenV1, q_seq, q_seq1, q_sl, q_st, q_so, q_sb, q_sf, q_mu, q_mu1, q_mu2, q_muS, q_muS1, q_muS2, q_app, q_app1, q_app2, q_pop, q_pop1, q_rev, q_rev1, q_isi, q_isi1, q_inV, q_inV1, q_ixV, q_ixV1, q_ixV2, q_ixV3, q_ixL, q_ixT, q_kV, q_fI, q_addI, q_eqI, q_eqS, q_eqB, q_int, q_tupL, q_tupT, q_listL, q_listT, q_len1, q_len2, q_neg, q_neg1, q_call, q_call2, q_call3, q_call4, q_cnil, q_ccons, q_ccons1, q_ccons2, q_cb', q_cb'1, q_ar0, q_ar1, q_ar2, q_ar3, q_ar4, q_ar5, q_put0, q_put1, q_put2, q_put3, q_put4, q_put5, q_bix0, q_bix1, q_bix2, q_sq, q_sq1, q_sq2, q_sq3, q_sq4, q_snil, q_ret, q_ret1, q_expr, q_expr1, q_ifS, q_ifS1, q_ifS2, q_set, q_set1, q_asg, q_asg1, q_gname, q_gnil, q_gcons, q_gcons1, q_par, q_par1, q_aug, q_aug1, q_aug2, q_rng, q_iseq, q_iseq1, q_sd1, q_sd2, q_kP2, q_fro, q_fro1, q_for, q_for1, q_k0, q_k1, q_w0, q_w1, q_lc, q_lc2, q_n1, q_n0, q_run, bO_b, bO_v, bO_n, finB0, finB1, q_at0, q_at1, q_at2, q_at3, q_bs, q_bn, q_ms, q_mn, q_g0, q_gs, q_s0, q_ss, List.head?_cons, List.tail_cons, List.map_cons, List.map_nil, List.length_cons, List.length_nil, List.cons_append, List.nil_append, List.replicate_succ, List.replicate_zero, Nat.reduceSub, Nat.reduceAdd, Bool.false_xor, Bool.true_xor, Bool.not_true, Bool.not_false, beq_self_eq_true, isBool, isInt, isStr, isTuple, q_callI, if_true, ite_true, List.nodup_nil, List.nodup_cons, List.not_mem_nil, not_false_eq_true, and_true, true_and, and_self, q_fg0, q_fg1, q_fg2, q_fg3, q_fg4, q_fg5, q_fg6, q_lg0, q_lg1, q_lg2, q_lg3, q_lg4, q_lg5, q_sub, q_sub1, q_sub2, q_sub3, q_sub4, q_sub5, q_rng2, q_rng2a, q_aS, q_aS1, q_aS2, q_aS3, q_aS4, q_aS5, q_aS5', q_aS7, ht, q_rng1 (n62 (show tn dr 7 ≤ 1000 by omega)), Int.toNat_natCast, q_lcI, hl, H1, Int.reduceAdd]
theorem min_cast : ∀ (l : List Nat) (a : Nat), (l.map fun (n : Nat) => (n : Int)).foldl min (a : Int) = ((l.foldl min a : Nat) : Int)
  | [], a => rfl
  | x :: l, a => by
    rw [List.map_cons, List.foldl_cons, List.foldl_cons, ← min_cast l (min a x)]
    congr 1
    omega
theorem fmin_eq {l : List Nat} (h : l ≠ []) : fMin [.list (encN l)] = some (.val (.int ((minL l : Nat) : Int))) := by
  cases l with
  | nil => exact absurd rfl h
  | cons a l =>
    show (intsOf (encN (a :: l))).bind (fun ns => (minI ns).map S.val) = _
    rw [encN_ints, intsOf_ints, q_bs]
    show some (S.val (.int ((l.map fun (n : Nat) => (n : Int)).foldl min (a : Int)))) = _
    rw [min_cast]
    rfl
theorem fmax_eq {l : List Nat} (h : l ≠ []) : fMax [.list (encN l)] = some (.val (.int ((maxL l : Nat) : Int))) := by
  cases l with
  | nil => exact absurd rfl h
  | cons a l =>
    show (intsOf (encN (a :: l))).bind (fun ns => (maxI ns).map S.val) = _
    rw [encN_ints, intsOf_ints, q_bs]
    show some (S.val (.int ((l.map fun (n : Nat) => (n : Int)).foldl max (a : Int)))) = _
    rw [foldl_max_cast]
    rfl
theorem sm_o (x : Option Nat) : Sm 12 (encO x) := by
  cases x
  · exact .e _
  · exact .i _ _
theorem sm_ii (x y : Int) : Sm 12 (.tuple [.int x, .int y]) := .t 11 _ (fun d h => by
  rcases List.mem_cons.mp h with rfl | h
  · exact .i _ _
  · have : d = .int y := by simpa using h
    subst this
    exact .i _ _) (by simp)
def envI (p : Pg) (dr : List Int) (X : S) (r : Bool) : En := [some (.bor (E dr)), some (.val p.enc), some (.val (.int (p.n : Int))), some X, some (.val (.bool r)), none, none, none, none, none, none]
theorem is1 (p : Pg) (wf : p.Wf) (dr : List Int) (X : S) (r : Bool) (k : Nat) (hk : k < 8) : ∃ ρ1 ρ2, rgName 5 (.int (k : Int)) (envI p dr X r) = some ρ1 ∧ w_Lis_told_2 ρ1 = some (.nx ρ2) ∧ killE [5, 6] ρ2 = envI p dr X r := by
  have hp : 2 ^ (k + 1) ≤ 256 := pow_le (k + 1) (by omega)
  obtain ⟨fd, h1, h2, _⟩ := ended_eq p wf k 300 (by omega) (by omega) (by omega)
  simp only [show ((300 : Nat) : Int) = 300 from rfl] at h1
  refine ⟨_, [some (.bor (E dr)), some (.val p.enc), some (.val (.int (p.n : Int))), some X, some (.val (.bool r)), some (.val (.int (k : Int))), some (.val (.list (fd.map encR))), none, none, none, none], rfl, ?_, rfl⟩
  obtain ⟨h3, h4⟩ := ca_law p.W p.n k wf.pos wf.go
  have h5 := within_eq p wf k (by omega)
  have h6 := open_eq p wf k (by omega)
  have h7 := lopen_eq p wf k (by omega)
  have h8 : ((fd.map encR).length : Int) = ((nE p.W k 0 : Nat) : Int) := by
    rw [← ts_len p.W k 0 0, ← h2, List.length_map, List.length_map]
  rw [h3] at h5
  rw [h4] at h6
  have h9 := same_eq 12 _ (sm_ii ((nE p.W k 0 : Nat) : Int) ((nO p.W k 0 : Nat) : Int))
  unfold w_Lis_told_2 envI
  simp only [q_var, q_var1, q_var2, q_mv, q_mv1, q_mv2, q_c, q_pr, q_bin, q_bin1, q_bin2, q_dv, q_do, q_tst, q_tst1, q_isN, q_isN0, q_isN1, q_isN2, q_isN3, q_isN4, q_isN5, q_and, q_and1, q_and2, q_or, q_or1, q_or2, q_not, q_not1, q_yes, q_andV, q_andV1, q_andV2, q_orV, q_orV1, q_orV2, q_notV, q_notV1, q_ifE, q_ifE1, q_ifE2, q_nil, q_cons, q_cons1, q_cons2, q_tup, q_tup1, q_lst, q_lst1, q_cb, q_cb1, q_lenV, q_lenV1, q_seq, q_seq1, q_sl, q_st, q_so, q_sb, q_sf, q_mu, q_mu1, q_mu2, q_muS, q_muS1, q_muS2, q_app, q_app1, q_app2, q_pop, q_pop1, q_rev, q_rev1, q_isi, q_isi1, q_inV, q_inV1, q_ixV, q_ixV1, q_ixV2, q_ixV3, q_ixL, q_ixT, q_kV, q_fI, q_addI, q_eqI, q_eqS, q_eqB, q_int, q_tupL, q_tupT, q_listL, q_listT, q_len1, q_len2, q_neg, q_neg1, q_call, q_call2, q_call3, q_call4, q_cnil, q_ccons, q_ccons1, q_ccons2, q_cb', q_cb'1, q_ar0, q_ar1, q_ar2, q_ar3, q_ar4, q_ar5, q_put0, q_put1, q_put2, q_put3, q_put4, q_put5, q_bix0, q_bix1, q_bix2, q_sq, q_sq1, q_sq2, q_sq3, q_sq4, q_snil, q_ret, q_ret1, q_expr, q_expr1, q_ifS, q_ifS1, q_ifS2, q_set, q_set1, q_asg, q_asg1, q_gname, q_gnil, q_gcons, q_gcons1, q_par, q_par1, q_aug, q_aug1, q_aug2, q_rng, q_iseq, q_iseq1, q_sd1, q_sd2, q_kP2, q_fro, q_fro1, q_for, q_for1, q_k0, q_k1, q_w0, q_w1, q_lc, q_lc2, q_n1, q_n0, q_run, bO_b, bO_v, bO_n, finB0, finB1, q_at0, q_at1, q_at2, q_at3, q_bs, q_bn, q_ms, q_mn, q_g0, q_gs, q_s0, q_ss, List.head?_cons, List.tail_cons, List.map_cons, List.map_nil, List.length_cons, List.length_nil, List.cons_append, List.nil_append, List.replicate_succ, List.replicate_zero, Nat.reduceSub, Nat.reduceAdd, Bool.false_xor, Bool.true_xor, Bool.not_true, Bool.not_false, beq_self_eq_true, isBool, isInt, isStr, isTuple, q_callI, if_true, ite_true, List.nodup_nil, List.nodup_cons, List.not_mem_nil, not_false_eq_true, and_true, true_and, and_self, q_fg0, q_fg1, q_fg2, q_fg3, q_fg4, q_fg5, q_fg6, q_lg0, q_lg1, q_lg2, q_lg3, q_lg4, q_lg5, q_sub, q_sub1, q_sub2, q_sub3, q_sub4, q_sub5, q_rng2, q_rng2a, q_aS, q_aS1, q_aS2, q_aS3, q_aS4, q_aS5, q_aS5', q_aS7, h1, h5, h6, h7, h8, h9]
theorem is2 (p : Pg) (wf : p.Wf) (dr : List Int) (X : S) (r : Bool) (a : Int) : ∃ dr' ρ1 ρ2, rgName 7 (.int a) (envI p dr X r) = some ρ1 ∧ w_Lis_told_3 ρ1 = some (.nx ρ2) ∧ killE [7, 8, 9] ρ2 = envI p dr' X r := by
  obtain ⟨dr1, row, h1, h2, h3⟩ := answers_eq dr
  have ht := take_n dr1 (n := 9) (by omega)
  have hlt := tn_lt dr1 (n := 9) (by omega)
  simp only [show ((9 : Nat) : Int) = 9 from rfl] at ht
  have e1 : (1 : Int) + ((tn dr1 9 : Nat) : Int) = ((1 + tn dr1 9 : Nat) : Int) := by omega
  have h4 := along_eq p wf row h3 (by omega) (1 + tn dr1 9) (by omega)
  have h5 := lalong_eq p wf row h3 (by omega) (1 + tn dr1 9) (by omega)
  have h6 := same_eq 12 _ (al_sm p.W row (1 + tn dr1 9) (List.range (1 + tn dr1 9)) 0 0)
  refine ⟨dr1.tail, _, [some (.bor (E dr1.tail)), some (.val p.enc), some (.val (.int (p.n : Int))), some X, some (.val (.bool r)), none, none, some (.val (.int a)), some (.val (.tuple (encN row))), some (.val (.int ((1 + tn dr1 9 : Nat) : Int))), none], rfl, ?_, rfl⟩
  unfold w_Lis_told_3 envI
  simp only [q_var, q_var1, q_var2, q_mv, q_mv1, q_mv2, q_c, q_pr, q_bin, q_bin1, q_bin2, q_dv, q_do, q_tst, q_tst1, q_isN, q_isN0, q_isN1, q_isN2, q_isN3, q_isN4, q_isN5, q_and, q_and1, q_and2, q_or, q_or1, q_or2, q_not, q_not1, q_yes, q_andV, q_andV1, q_andV2, q_orV, q_orV1, q_orV2, q_notV, q_notV1, q_ifE, q_ifE1, q_ifE2, q_nil, q_cons, q_cons1, q_cons2, q_tup, q_tup1, q_lst, q_lst1, q_cb, q_cb1, q_lenV, q_lenV1, q_seq, q_seq1, q_sl, q_st, q_so, q_sb, q_sf, q_mu, q_mu1, q_mu2, q_muS, q_muS1, q_muS2, q_app, q_app1, q_app2, q_pop, q_pop1, q_rev, q_rev1, q_isi, q_isi1, q_inV, q_inV1, q_ixV, q_ixV1, q_ixV2, q_ixV3, q_ixL, q_ixT, q_kV, q_fI, q_addI, q_eqI, q_eqS, q_eqB, q_int, q_tupL, q_tupT, q_listL, q_listT, q_len1, q_len2, q_neg, q_neg1, q_call, q_call2, q_call3, q_call4, q_cnil, q_ccons, q_ccons1, q_ccons2, q_cb', q_cb'1, q_ar0, q_ar1, q_ar2, q_ar3, q_ar4, q_ar5, q_put0, q_put1, q_put2, q_put3, q_put4, q_put5, q_bix0, q_bix1, q_bix2, q_sq, q_sq1, q_sq2, q_sq3, q_sq4, q_snil, q_ret, q_ret1, q_expr, q_expr1, q_ifS, q_ifS1, q_ifS2, q_set, q_set1, q_asg, q_asg1, q_gname, q_gnil, q_gcons, q_gcons1, q_par, q_par1, q_aug, q_aug1, q_aug2, q_rng, q_iseq, q_iseq1, q_sd1, q_sd2, q_kP2, q_fro, q_fro1, q_for, q_for1, q_k0, q_k1, q_w0, q_w1, q_lc, q_lc2, q_n1, q_n0, q_run, bO_b, bO_v, bO_n, finB0, finB1, q_at0, q_at1, q_at2, q_at3, q_bs, q_bn, q_ms, q_mn, q_g0, q_gs, q_s0, q_ss, List.head?_cons, List.tail_cons, List.map_cons, List.map_nil, List.length_cons, List.length_nil, List.cons_append, List.nil_append, List.replicate_succ, List.replicate_zero, Nat.reduceSub, Nat.reduceAdd, Bool.false_xor, Bool.true_xor, Bool.not_true, Bool.not_false, beq_self_eq_true, isBool, isInt, isStr, isTuple, q_callI, if_true, ite_true, List.nodup_nil, List.nodup_cons, List.not_mem_nil, not_false_eq_true, and_true, true_and, and_self, q_fg0, q_fg1, q_fg2, q_fg3, q_fg4, q_fg5, q_fg6, q_lg0, q_lg1, q_lg2, q_lg3, q_lg4, q_lg5, q_sub, q_sub1, q_sub2, q_sub3, q_sub4, q_sub5, q_rng2, q_rng2a, q_aS, q_aS1, q_aS2, q_aS3, q_aS4, q_aS5, q_aS5', q_aS7, h1, ht, e1, h4, h5, h6]
theorem is1_all (p : Pg) (wf : p.Wf) (dr : List Int) (X : S) (r : Bool) : forGo (rgName 5) w_Lis_told_2 [5, 6] (rng 0 8) (envI p dr X r) = some (.nx (envI p dr X r)) := by
  have H := for_foldN (g := rgName 5) (b := w_Lis_told_2) (ks := [5, 6]) (fun (n : Nat) => PyData.int (n : Int)) (fun (_ : Unit) => envI p dr X r) (fun x _ => x) (fun _ _ => True) (fun k => k < 8) 8 (List.range 8) 0 () (by simp) trivial (fun a h => List.mem_range.mp h)
    fun j x a _ _ ha => ⟨trivial, is1 p wf dr X r a ha⟩
  rw [← rng0] at H
  exact H.1
theorem is2_all (p : Pg) (wf : p.Wf) (dr : List Int) (X : S) (r : Bool) : ∃ dr', forGo (rgName 7) w_Lis_told_3 [7, 8, 9] (rng 0 3) (envI p dr X r) = some (.nx (envI p dr' X r)) := by
  obtain ⟨ρ', h1, dr', h2⟩ := for_inv (g := rgName 7) (b := w_Lis_told_3) (ks := [7, 8, 9]) (ds := rng 0 3) (ρ := envI p dr X r) (fun _ ρ => ∃ dr', ρ = envI p dr' X r) 0 ⟨dr, rfl⟩ fun i d ρ hd h => by
    obtain ⟨dr1, rfl⟩ := h
    obtain ⟨_, rfl⟩ := rng_get hd
    obtain ⟨dr2, ρ1, ρ2, h1, h2, h3⟩ := is2 p wf dr1 X r (0 + (i : Int))
    exact ⟨ρ1, ρ2, h1, h2, dr2, h3⟩
  exact ⟨dr', by rw [h1, h2]⟩
theorem told_eq (p : Pg) (wf : p.Wf) (dr : List Int) : ∃ dr', f_Lis_told [.bor (E dr), .val p.enc] = some (.val (.bool true), [some (.bor (E dr')), none]) := by
  have hn := wf.small
  have hp : 2 ^ (p.n + 1) ≤ 128 := by
    have : 2 ^ (p.n + 1) ≤ 2 ^ 7 := Nat.pow_le_pow_right (by omega) (by omega)
    omega
  obtain ⟨fd, h1, h2, hfl⟩ := ended_eq p wf p.n 200 (by omega) (by omega) (by omega)
  simp only [show ((200 : Nat) : Int) = 200 from rfl] at h1
  obtain ⟨r, h3, h4⟩ := lring_eq p wf
  have hl := least_eq p wf (fewest_at p.W p.n wf.pos wf.go)
  obtain ⟨bl, R, hg⟩ := greatest_eq p wf
  have hg := hg _ (grt_at R.zero R.nd R.lt R.cl)
  have e1 : ((p.bs.map encB).length : Int) = (p.n : Int) := by rw [len_enc]
  have hlc : ∀ x y, lcGo (rgName 10) rtYes e_Lis_told_1 [10] (fd.map encR) [] [x, y, some (.val (.int (p.n : Int))), none, none, none, none, none, none, none, none] = some (encN (ts p.W p.n 0 0), [x, y, some (.val (.int (p.n : Int))), none, none, none, none, none, none, none, none]) := by
    intro x z
    have := lc_map (g := rgName 10) (t := e_Lis_told_1) (vs := [10]) encR (fun y => PyData.int ((y.2 : Nat) : Int)) (ρ := [x, z, some (.val (.int (p.n : Int))), none, none, none, none, none, none, none, none]) fd [] fun y _ => by
      refine ⟨[x, z, some (.val (.int (p.n : Int))), none, none, none, none, none, none, none, some (.val (encR y))], .val (.int ((y.2 : Nat) : Int)), [x, z, some (.val (.int (p.n : Int))), none, none, none, none, none, none, none, some (.val (encR y))], rfl, ?_, rfl, rfl⟩
      unfold e_Lis_told_1 encR
      simp only [q_var, q_var1, q_var2, q_mv, q_mv1, q_mv2, q_c, q_pr, q_bin, q_bin1, q_bin2, q_dv, q_do, q_tst, q_tst1, q_isN, q_isN0, q_isN1, q_isN2, q_isN3, q_isN4, q_isN5, q_and, q_and1, q_and2, q_or, q_or1, q_or2, q_not, q_not1, q_yes, q_andV, q_andV1, q_andV2, q_orV, q_orV1, q_orV2, q_notV, q_notV1, q_ifE, q_ifE1, q_ifE2, q_nil, q_cons, q_cons1, q_cons2, q_tup, q_tup1, q_lst, q_lst1, q_cb, q_cb1, q_lenV, q_lenV1, q_seq, q_seq1, q_sl, q_st, q_so, q_sb, q_sf, q_mu, q_mu1, q_mu2, q_muS, q_muS1, q_muS2, q_app, q_app1, q_app2, q_pop, q_pop1, q_rev, q_rev1, q_isi, q_isi1, q_inV, q_inV1, q_ixV, q_ixV1, q_ixV2, q_ixV3, q_ixL, q_ixT, q_kV, q_fI, q_addI, q_eqI, q_eqS, q_eqB, q_int, q_tupL, q_tupT, q_listL, q_listT, q_len1, q_len2, q_neg, q_neg1, q_call, q_call2, q_call3, q_call4, q_cnil, q_ccons, q_ccons1, q_ccons2, q_cb', q_cb'1, q_ar0, q_ar1, q_ar2, q_ar3, q_ar4, q_ar5, q_put0, q_put1, q_put2, q_put3, q_put4, q_put5, q_bix0, q_bix1, q_bix2, q_sq, q_sq1, q_sq2, q_sq3, q_sq4, q_snil, q_ret, q_ret1, q_expr, q_expr1, q_ifS, q_ifS1, q_ifS2, q_set, q_set1, q_asg, q_asg1, q_gname, q_gnil, q_gcons, q_gcons1, q_par, q_par1, q_aug, q_aug1, q_aug2, q_rng, q_iseq, q_iseq1, q_sd1, q_sd2, q_kP2, q_fro, q_fro1, q_for, q_for1, q_k0, q_k1, q_w0, q_w1, q_lc, q_lc2, q_n1, q_n0, q_run, bO_b, bO_v, bO_n, finB0, finB1, q_at0, q_at1, q_at2, q_at3, q_bs, q_bn, q_ms, q_mn, q_g0, q_gs, q_s0, q_ss, List.head?_cons, List.tail_cons, List.map_cons, List.map_nil, List.length_cons, List.length_nil, List.cons_append, List.nil_append, List.replicate_succ, List.replicate_zero, Nat.reduceSub, Nat.reduceAdd, Bool.false_xor, Bool.true_xor, Bool.not_true, Bool.not_false, beq_self_eq_true, isBool, isInt, isStr, isTuple, q_callI, if_true, ite_true, List.nodup_nil, List.nodup_cons, List.not_mem_nil, not_false_eq_true, and_true, true_and, and_self, q_fg0, q_fg1, q_fg2, q_fg3, q_fg4, q_fg5, q_fg6, q_lg0, q_lg1, q_lg2, q_lg3, q_lg4, q_lg5, q_sub, q_sub1, q_sub2, q_sub3, q_sub4, q_sub5, q_rng2, q_rng2a, q_aS, q_aS1, q_aS2, q_aS3, q_aS4, q_aS5, q_aS5', q_aS7]
    rw [this]
    rw [← h2]
    unfold encN
    rw [List.map_map, List.nil_append]
    rfl
  have hsz : (fd.map encR).length ≤ sizeLine := by rw [List.length_map]; exact sz_le (by omega)
  have hlaw := least_law p.W p.n
  have hs1 := same_eq 12 _ (sm_o (dist p.W p.n 0))
  have hs2 := same_eq 12 _ (sm_o (ht p.W p.n 0))
  have e2 : (8 : Int).toNat = 8 := rfl
  have e3 : (3 : Int).toNat = 3 := rfl
  have q8 := fun {ρ : En} => q_rng1 (ρ := ρ) (k := 8) (by omega)
  have q3 := fun {ρ : En} => q_rng1 (ρ := ρ) (k := 3) (by omega)
  rw [e2] at q8
  rw [e3] at q3
  by_cases hne : ts p.W p.n 0 0 = []
  · have hr : r = true := h4.mpr (Classical.byContradiction fun h => ht_ne p.W p.n h hne)
    have hh : ht p.W p.n 0 = none := (ht_pth p.W p.n 0).mpr (h4.mp hr)
    rw [hne] at hlaw hlc
    have hd : dist p.W p.n 0 = none := hlaw
    rw [hd] at hs1 hl
    rw [hh] at hs2 hg
    rw [hr] at h3
    obtain ⟨dr', F2⟩ := is2_all p wf dr (.own (encN [])) true
    have F1 := is1_all p wf dr (.own (encN [])) true
    refine ⟨dr', ?_⟩
    have l0 : decide ((0 : Int) < ((encN []).length : Int)) = false := rfl
    rw [encO_n] at hs1 hl hs2 hg
    unfold f_Lis_told b_Lis_told
    unfold envI at F1 F2
    unfold Pg.enc at *
    simp only [q_var, q_var1, q_var2, q_mv, q_mv1, q_mv2, q_c, q_pr, q_bin, q_bin1, q_bin2, q_dv, q_do, q_tst, q_tst1, q_isN, q_isN0, q_isN1, q_isN2, q_isN3, q_isN4, q_isN5, q_and, q_and1, q_and2, q_or, q_or1, q_or2, q_not, q_not1, q_yes, q_andV, q_andV1, q_andV2, q_orV, q_orV1, q_orV2, q_notV, q_notV1, q_ifE, q_ifE1, q_ifE2, q_nil, q_cons, q_cons1, q_cons2, q_tup, q_tup1, q_lst, q_lst1, q_cb, q_cb1, q_lenV, q_lenV1, q_seq, q_seq1, q_sl, q_st, q_so, q_sb, q_sf, q_mu, q_mu1, q_mu2, q_muS, q_muS1, q_muS2, q_app, q_app1, q_app2, q_pop, q_pop1, q_rev, q_rev1, q_isi, q_isi1, q_inV, q_inV1, q_ixV, q_ixV1, q_ixV2, q_ixV3, q_ixL, q_ixT, q_kV, q_fI, q_addI, q_eqI, q_eqS, q_eqB, q_int, q_tupL, q_tupT, q_listL, q_listT, q_len1, q_len2, q_neg, q_neg1, q_call, q_call2, q_call3, q_call4, q_cnil, q_ccons, q_ccons1, q_ccons2, q_cb', q_cb'1, q_ar0, q_ar1, q_ar2, q_ar3, q_ar4, q_ar5, q_put0, q_put1, q_put2, q_put3, q_put4, q_put5, q_bix0, q_bix1, q_bix2, q_sq, q_sq1, q_sq2, q_sq3, q_sq4, q_snil, q_ret, q_ret1, q_expr, q_expr1, q_ifS, q_ifS1, q_ifS2, q_set, q_set1, q_asg, q_asg1, q_gname, q_gnil, q_gcons, q_gcons1, q_par, q_par1, q_aug, q_aug1, q_aug2, q_rng, q_iseq, q_iseq1, q_sd1, q_sd2, q_kP2, q_fro, q_fro1, q_for, q_for1, q_k0, q_k1, q_w0, q_w1, q_lc, q_lc2, q_n1, q_n0, q_run, bO_b, bO_v, bO_n, finB0, finB1, q_at0, q_at1, q_at2, q_at3, q_bs, q_bn, q_ms, q_mn, q_g0, q_gs, q_s0, q_ss, List.head?_cons, List.tail_cons, List.map_cons, List.map_nil, List.length_cons, List.length_nil, List.cons_append, List.nil_append, List.replicate_succ, List.replicate_zero, Nat.reduceSub, Nat.reduceAdd, Bool.false_xor, Bool.true_xor, Bool.not_true, Bool.not_false, beq_self_eq_true, isBool, isInt, isStr, isTuple, q_callI, if_true, ite_true, List.nodup_nil, List.nodup_cons, List.not_mem_nil, not_false_eq_true, and_true, true_and, and_self, q_fg0, q_fg1, q_fg2, q_fg3, q_fg4, q_fg5, q_fg6, q_lg0, q_lg1, q_lg2, q_lg3, q_lg4, q_lg5, q_sub, q_sub1, q_sub2, q_sub3, q_sub4, q_sub5, q_rng2, q_rng2a, q_aS, q_aS1, q_aS2, q_aS3, q_aS4, q_aS5, q_aS5', q_aS7, e1, h1, q_lcI, hsz, hlc, l0, hl, hs1, h3, hg, q8, q3, F1, F2]
  · have hlen : 0 < (ts p.W p.n 0 0).length := List.length_pos_iff.mpr hne
    rw [if_pos hlen] at hlaw
    have hmin := fmin_eq hne
    have hmax := fmax_eq hne
    rw [hlaw] at hs1 hl
    rw [encO_s] at hs1 hl
    have l0 : decide ((0 : Int) < ((encN (ts p.W p.n 0 0)).length : Int)) = true := decide_eq_true (by rw [encN_len]; omega)
    obtain ⟨dr', F2⟩ := is2_all p wf dr (.val (.list (encN (ts p.W p.n 0 0)))) r
    have F1 := is1_all p wf dr (.val (.list (encN (ts p.W p.n 0 0)))) r
    refine ⟨dr', ?_⟩
    unfold f_Lis_told b_Lis_told
    unfold envI at F1 F2
    cases hr : r with
    | true =>
      have hh : ht p.W p.n 0 = none := (ht_pth p.W p.n 0).mpr (h4.mp hr)
      rw [hr] at h3 F1 F2
      rw [hh, encO_n] at hs2 hg
      unfold Pg.enc at *
      simp only [q_var, q_var1, q_var2, q_mv, q_mv1, q_mv2, q_c, q_pr, q_bin, q_bin1, q_bin2, q_dv, q_do, q_tst, q_tst1, q_isN, q_isN0, q_isN1, q_isN2, q_isN3, q_isN4, q_isN5, q_and, q_and1, q_and2, q_or, q_or1, q_or2, q_not, q_not1, q_yes, q_andV, q_andV1, q_andV2, q_orV, q_orV1, q_orV2, q_notV, q_notV1, q_ifE, q_ifE1, q_ifE2, q_nil, q_cons, q_cons1, q_cons2, q_tup, q_tup1, q_lst, q_lst1, q_cb, q_cb1, q_lenV, q_lenV1, q_seq, q_seq1, q_sl, q_st, q_so, q_sb, q_sf, q_mu, q_mu1, q_mu2, q_muS, q_muS1, q_muS2, q_app, q_app1, q_app2, q_pop, q_pop1, q_rev, q_rev1, q_isi, q_isi1, q_inV, q_inV1, q_ixV, q_ixV1, q_ixV2, q_ixV3, q_ixL, q_ixT, q_kV, q_fI, q_addI, q_eqI, q_eqS, q_eqB, q_int, q_tupL, q_tupT, q_listL, q_listT, q_len1, q_len2, q_neg, q_neg1, q_call, q_call2, q_call3, q_call4, q_cnil, q_ccons, q_ccons1, q_ccons2, q_cb', q_cb'1, q_ar0, q_ar1, q_ar2, q_ar3, q_ar4, q_ar5, q_put0, q_put1, q_put2, q_put3, q_put4, q_put5, q_bix0, q_bix1, q_bix2, q_sq, q_sq1, q_sq2, q_sq3, q_sq4, q_snil, q_ret, q_ret1, q_expr, q_expr1, q_ifS, q_ifS1, q_ifS2, q_set, q_set1, q_asg, q_asg1, q_gname, q_gnil, q_gcons, q_gcons1, q_par, q_par1, q_aug, q_aug1, q_aug2, q_rng, q_iseq, q_iseq1, q_sd1, q_sd2, q_kP2, q_fro, q_fro1, q_for, q_for1, q_k0, q_k1, q_w0, q_w1, q_lc, q_lc2, q_n1, q_n0, q_run, bO_b, bO_v, bO_n, finB0, finB1, q_at0, q_at1, q_at2, q_at3, q_bs, q_bn, q_ms, q_mn, q_g0, q_gs, q_s0, q_ss, List.head?_cons, List.tail_cons, List.map_cons, List.map_nil, List.length_cons, List.length_nil, List.cons_append, List.nil_append, List.replicate_succ, List.replicate_zero, Nat.reduceSub, Nat.reduceAdd, Bool.false_xor, Bool.true_xor, Bool.not_true, Bool.not_false, beq_self_eq_true, isBool, isInt, isStr, isTuple, q_callI, if_true, ite_true, List.nodup_nil, List.nodup_cons, List.not_mem_nil, not_false_eq_true, and_true, true_and, and_self, q_fg0, q_fg1, q_fg2, q_fg3, q_fg4, q_fg5, q_fg6, q_lg0, q_lg1, q_lg2, q_lg3, q_lg4, q_lg5, q_sub, q_sub1, q_sub2, q_sub3, q_sub4, q_sub5, q_rng2, q_rng2a, q_aS, q_aS1, q_aS2, q_aS3, q_aS4, q_aS5, q_aS5', q_aS7, e1, h1, q_lcI, hsz, hlc, l0, hl, hmin, hmax, hs1, hs2, h3, hg, q8, q3, F1, F2]
    | false =>
      have hnp : ¬ pth p.W p.n 0 := fun h => by rw [h4.mpr h] at hr; cases hr
      have hh : ht p.W p.n 0 = some (maxL (ts p.W p.n 0 0)) := by
        have := @greatest_law p.W p.n (.isFalse hnp)
        rw [this]
        exact if_neg hnp
      rw [hr] at h3 F1 F2
      rw [hh, encO_s] at hs2 hg
      unfold Pg.enc at *
      simp only [q_var, q_var1, q_var2, q_mv, q_mv1, q_mv2, q_c, q_pr, q_bin, q_bin1, q_bin2, q_dv, q_do, q_tst, q_tst1, q_isN, q_isN0, q_isN1, q_isN2, q_isN3, q_isN4, q_isN5, q_and, q_and1, q_and2, q_or, q_or1, q_or2, q_not, q_not1, q_yes, q_andV, q_andV1, q_andV2, q_orV, q_orV1, q_orV2, q_notV, q_notV1, q_ifE, q_ifE1, q_ifE2, q_nil, q_cons, q_cons1, q_cons2, q_tup, q_tup1, q_lst, q_lst1, q_cb, q_cb1, q_lenV, q_lenV1, q_seq, q_seq1, q_sl, q_st, q_so, q_sb, q_sf, q_mu, q_mu1, q_mu2, q_muS, q_muS1, q_muS2, q_app, q_app1, q_app2, q_pop, q_pop1, q_rev, q_rev1, q_isi, q_isi1, q_inV, q_inV1, q_ixV, q_ixV1, q_ixV2, q_ixV3, q_ixL, q_ixT, q_kV, q_fI, q_addI, q_eqI, q_eqS, q_eqB, q_int, q_tupL, q_tupT, q_listL, q_listT, q_len1, q_len2, q_neg, q_neg1, q_call, q_call2, q_call3, q_call4, q_cnil, q_ccons, q_ccons1, q_ccons2, q_cb', q_cb'1, q_ar0, q_ar1, q_ar2, q_ar3, q_ar4, q_ar5, q_put0, q_put1, q_put2, q_put3, q_put4, q_put5, q_bix0, q_bix1, q_bix2, q_sq, q_sq1, q_sq2, q_sq3, q_sq4, q_snil, q_ret, q_ret1, q_expr, q_expr1, q_ifS, q_ifS1, q_ifS2, q_set, q_set1, q_asg, q_asg1, q_gname, q_gnil, q_gcons, q_gcons1, q_par, q_par1, q_aug, q_aug1, q_aug2, q_rng, q_iseq, q_iseq1, q_sd1, q_sd2, q_kP2, q_fro, q_fro1, q_for, q_for1, q_k0, q_k1, q_w0, q_w1, q_lc, q_lc2, q_n1, q_n0, q_run, bO_b, bO_v, bO_n, finB0, finB1, q_at0, q_at1, q_at2, q_at3, q_bs, q_bn, q_ms, q_mn, q_g0, q_gs, q_s0, q_ss, List.head?_cons, List.tail_cons, List.map_cons, List.map_nil, List.length_cons, List.length_nil, List.cons_append, List.nil_append, List.replicate_succ, List.replicate_zero, Nat.reduceSub, Nat.reduceAdd, Bool.false_xor, Bool.true_xor, Bool.not_true, Bool.not_false, beq_self_eq_true, isBool, isInt, isStr, isTuple, q_callI, if_true, ite_true, List.nodup_nil, List.nodup_cons, List.not_mem_nil, not_false_eq_true, and_true, true_and, and_self, q_fg0, q_fg1, q_fg2, q_fg3, q_fg4, q_fg5, q_fg6, q_lg0, q_lg1, q_lg2, q_lg3, q_lg4, q_lg5, q_sub, q_sub1, q_sub2, q_sub3, q_sub4, q_sub5, q_rng2, q_rng2a, q_aS, q_aS1, q_aS2, q_aS3, q_aS4, q_aS5, q_aS5', q_aS7, e1, h1, q_lcI, hsz, hlc, l0, hl, hmin, hmax, hs1, hs2, h3, hg, q8, q3, F1, F2]
end K50

set_option Elab.async false
set_option linter.all false
set_option maxRecDepth 100000
set_option maxHeartbeats 4000000
namespace K50
open PySem L2 DL
theorem take_12 (dr : List Int) : f_Ltake [.bor (E dr), .val (.int 12)] = some (.val (.int ((tn dr 12 : Nat) : Int)), [some (.bor (E dr.tail)), none]) := take_n dr (n := 12) (by omega)
theorem take_2 (dr : List Int) : f_Ltake [.bor (E dr), .val (.int 2)] = some (.val (.int ((tn dr 2 : Nat) : Int)), [some (.bor (E dr.tail)), none]) := take_n dr (n := 2) (by omega)
theorem take_3 (dr : List Int) : f_Ltake [.bor (E dr), .val (.int 3)] = some (.val (.int ((tn dr 3 : Nat) : Int)), [some (.bor (E dr.tail)), none]) := take_n dr (n := 3) (by omega)
theorem take_4 (dr : List Int) : f_Ltake [.bor (E dr), .val (.int 4)] = some (.val (.int ((tn dr 4 : Nat) : Int)), [some (.bor (E dr.tail)), none]) := take_n dr (n := 4) (by omega)
theorem take_5 (dr : List Int) : f_Ltake [.bor (E dr), .val (.int 5)] = some (.val (.int ((tn dr 5 : Nat) : Int)), [some (.bor (E dr.tail)), none]) := take_n dr (n := 5) (by omega)
theorem take_6 (dr : List Int) : f_Ltake [.bor (E dr), .val (.int 6)] = some (.val (.int ((tn dr 6 : Nat) : Int)), [some (.bor (E dr.tail)), none]) := take_n dr (n := 6) (by omega)
theorem take_16 (dr : List Int) : f_Ltake [.bor (E dr), .val (.int 16)] = some (.val (.int ((tn dr 16 : Nat) : Int)), [some (.bor (E dr.tail)), none]) := take_n dr (n := 16) (by omega)
/-! ### _law_thing -/
theorem thing_lc (dr : List Int) (x y z u : Option S) (m : Nat) : ∃ acc dr', lcGo (rgName 5) rtYes e_Lthing_1 [5] (rng 0 m) [] [some (.bor (E dr)), x, y, z, u, none] = some (acc, [some (.bor (E dr')), x, y, z, u, none]) := by
  obtain ⟨acc', ρ', H1, dr', h⟩ := lc_state (g := rgName 5) (t := e_Lthing_1) (vs := [5]) (fun (n : Nat) => PyData.int (n : Int)) (fun _ _ ρ => ∃ dr', ρ = [some (.bor (E dr')), x, y, z, u, none]) (List.range m) [] [some (.bor (E dr)), x, y, z, u, none] 0 ⟨dr, rfl⟩ fun i a acc ρ _ h => by
    obtain ⟨dr', rfl⟩ := h
    refine ⟨[some (.bor (E dr')), x, y, z, u, some (.val (.int (a : Int)))], .val (.int ((tn dr' 3 : Nat) : Int)), [some (.bor (E dr'.tail)), x, y, z, u, some (.val (.int (a : Int)))], rfl, ?_, dr'.tail, rfl⟩
    unfold e_Lthing_1
    simp only [q_var, q_var1, q_var2, q_mv, q_mv1, q_mv2, q_c, q_pr, q_bin, q_bin1, q_bin2, q_dv, q_do, q_tst, q_tst1, q_isN, q_isN0, q_isN1, q_isN2, q_isN3, q_isN4, q_isN5, q_and, q_and1, q_and2, q_or, q_or1, q_or2, q_not, q_not1, q_yes, q_andV, q_andV1, q_andV2, q_orV, q_orV1, q_orV2, q_notV, q_notV1, q_ifE, q_ifE1, q_ifE2, q_nil, q_cons, q_cons1, q_cons2, q_tup, q_tup1, q_lst, q_lst1, q_cb, q_cb1, q_lenV, q_lenV1, q_seq, q_seq1, q_sl, q_st, q_so, q_sb, q_sf, q_mu, q_mu1, q_mu2, q_muS, q_muS1, q_muS2, q_app, q_app1, q_app2, q_pop, q_pop1, q_rev, q_rev1, q_isi, q_isi1, q_inV, q_inV1, q_ixV, q_ixV1, q_ixV2, q_ixV3, q_ixL, q_ixT, q_kV, q_fI, q_addI, q_eqI, q_eqS, q_eqB, q_int, q_tupL, q_tupT, q_listL, q_listT, q_len1, q_len2, q_neg, q_neg1, q_call, q_call2, q_call3, q_call4, q_cnil, q_ccons, q_ccons1, q_ccons2, q_cb', q_cb'1, q_ar0, q_ar1, q_ar2, q_ar3, q_ar4, q_ar5, q_put0, q_put1, q_put2, q_put3, q_put4, q_put5, q_bix0, q_bix1, q_bix2, q_sq, q_sq1, q_sq2, q_sq3, q_sq4, q_snil, q_ret, q_ret1, q_expr, q_expr1, q_ifS, q_ifS1, q_ifS2, q_set, q_set1, q_asg, q_asg1, q_gname, q_gnil, q_gcons, q_gcons1, q_par, q_par1, q_aug, q_aug1, q_aug2, q_rng, q_iseq, q_iseq1, q_sd1, q_sd2, q_kP2, q_fro, q_fro1, q_for, q_for1, q_k0, q_k1, q_w0, q_w1, q_lc, q_lc2, q_n1, q_n0, q_run, bO_b, bO_v, bO_n, finB0, finB1, q_at0, q_at1, q_at2, q_at3, q_bs, q_bn, q_ms, q_mn, q_g0, q_gs, q_s0, q_ss, List.head?_cons, List.tail_cons, List.map_cons, List.map_nil, List.length_cons, List.length_nil, List.cons_append, List.nil_append, List.replicate_succ, List.replicate_zero, Nat.reduceSub, Nat.reduceAdd, Bool.false_xor, Bool.true_xor, Bool.not_true, Bool.not_false, beq_self_eq_true, isBool, isInt, isStr, isTuple, q_callI, if_true, ite_true, List.nodup_nil, List.nodup_cons, List.not_mem_nil, not_false_eq_true, and_true, true_and, and_self, q_fg0, q_fg1, q_fg2, q_fg3, q_fg4, q_fg5, q_fg6, q_lg0, q_lg1, q_lg2, q_lg3, q_lg4, q_lg5, q_sub, q_sub1, q_sub2, q_sub3, q_sub4, q_sub5, q_rng2, q_rng2a, q_aS, q_aS1, q_aS2, q_aS3, q_aS4, q_aS5, q_aS5', q_aS7, take_3]
  rw [← rng0] at H1
  exact ⟨acc', dr', by rw [H1, h]⟩
theorem thing_w (dr : List Int) (c p : Int) (row : List D) (hr : row.length ≤ 1000) (a : Int) : ∃ dr' d ρ1 ρ2, rgName 4 (.int a) [some (.bor (E dr)), some (.val (.int c)), some (.val (.int p)), some (.own row), none, none] = some ρ1 ∧ w_Lthing_2 ρ1 = some (.nx ρ2) ∧
    killE [4, 5] ρ2 = [some (.bor (E dr')), some (.val (.int c)), some (.val (.int p)), some (.own (row ++ [d])), none, none] := by
  have hz : row.length < sizeLine := sz_lt (by omega)
  cases h : (((tn dr 4 : Nat) : Int) == 0) with
  | true =>
    have hlt := tn_lt dr.tail (n := 3) (by omega)
    obtain ⟨acc, dr', H⟩ := thing_lc dr.tail.tail (some (.val (.int c))) (some (.val (.int p))) (some (.own row)) (some (.val (.int a))) (tn dr.tail 3)
    have hl : (rng 0 (tn dr.tail 3)).length ≤ sizeLine := by rw [rng0, List.length_map, List.length_range]; exact sz_le (by omega)
    refine ⟨dr', .tuple acc, _, [some (.bor (E dr')), some (.val (.int c)), some (.val (.int p)), some (.own (row ++ [.tuple acc])), some (.val (.int a)), none], rfl, ?_, rfl⟩
    unfold w_Lthing_2
    simp only [q_var, q_var1, q_var2, q_mv, q_mv1, q_mv2, q_c, q_pr, q_bin, q_bin1, q_bin2, q_dv, q_do, q_tst, q_tst1, q_isN, q_isN0, q_isN1, q_isN2, q_isN3, q_isN4, q_isN5, q_and, q_and1, q_and2, q_or, q_or1, q_or2, q_not, q_not1, q_yes, q_andV, q_andV1, q_andV2, q_orV, q_orV1, q_orV2, q_notV, q_notV1, q_ifE, q_ifE1, q_ifE2, q_nil, q_cons, q_cons1, q_cons2, q_tup, q_tup1, q_lst, q_lst1, q_cb, q_cb1, q_lenV, q_lenV1, q_seq, q_seq1, q_sl, q_st, q_so, q_sb, q_sf, q_mu, q_mu1, q_mu2, q_muS, q_muS1, q_muS2, q_app, q_app1, q_app2, q_pop, q_pop1, q_rev, q_rev1, q_isi, q_isi1, q_inV, q_inV1, q_ixV, q_ixV1, q_ixV2, q_ixV3, q_ixL, q_ixT, q_kV, q_fI, q_addI, q_eqI, q_eqS, q_eqB, q_int, q_tupL, q_tupT, q_listL, q_listT, q_len1, q_len2, q_neg, q_neg1, q_call, q_call2, q_call3, q_call4, q_cnil, q_ccons, q_ccons1, q_ccons2, q_cb', q_cb'1, q_ar0, q_ar1, q_ar2, q_ar3, q_ar4, q_ar5, q_put0, q_put1, q_put2, q_put3, q_put4, q_put5, q_bix0, q_bix1, q_bix2, q_sq, q_sq1, q_sq2, q_sq3, q_sq4, q_snil, q_ret, q_ret1, q_expr, q_expr1, q_ifS, q_ifS1, q_ifS2, q_set, q_set1, q_asg, q_asg1, q_gname, q_gnil, q_gcons, q_gcons1, q_par, q_par1, q_aug, q_aug1, q_aug2, q_rng, q_iseq, q_iseq1, q_sd1, q_sd2, q_kP2, q_fro, q_fro1, q_for, q_for1, q_k0, q_k1, q_w0, q_w1, q_lc, q_lc2, q_n1, q_n0, q_run, bO_b, bO_v, bO_n, finB0, finB1, q_at0, q_at1, q_at2, q_at3, q_bs, q_bn, q_ms, q_mn, q_g0, q_gs, q_s0, q_ss, List.head?_cons, List.tail_cons, List.map_cons, List.map_nil, List.length_cons, List.length_nil, List.cons_append, List.nil_append, List.replicate_succ, List.replicate_zero, Nat.reduceSub, Nat.reduceAdd, Bool.false_xor, Bool.true_xor, Bool.not_true, Bool.not_false, beq_self_eq_true, isBool, isInt, isStr, isTuple, q_callI, if_true, ite_true, List.nodup_nil, List.nodup_cons, List.not_mem_nil, not_false_eq_true, and_true, true_and, and_self, q_fg0, q_fg1, q_fg2, q_fg3, q_fg4, q_fg5, q_fg6, q_lg0, q_lg1, q_lg2, q_lg3, q_lg4, q_lg5, q_sub, q_sub1, q_sub2, q_sub3, q_sub4, q_sub5, q_rng2, q_rng2a, q_aS, q_aS1, q_aS2, q_aS3, q_aS4, q_aS5, q_aS5', q_aS7, take_4, take_3, h, q_rng1 (n62 (show tn dr.tail 3 ≤ 1000 by omega)), Int.toNat_natCast, q_lcI, hl, H, q_app3 hz]
  | false =>
    refine ⟨dr.tail.tail, .int (((tn dr.tail 4 : Nat) : Int) - 1), _, [some (.bor (E dr.tail.tail)), some (.val (.int c)), some (.val (.int p)), some (.own (row ++ [.int (((tn dr.tail 4 : Nat) : Int) - 1)])), some (.val (.int a)), none], rfl, ?_, rfl⟩
    unfold w_Lthing_2
    simp only [q_var, q_var1, q_var2, q_mv, q_mv1, q_mv2, q_c, q_pr, q_bin, q_bin1, q_bin2, q_dv, q_do, q_tst, q_tst1, q_isN, q_isN0, q_isN1, q_isN2, q_isN3, q_isN4, q_isN5, q_and, q_and1, q_and2, q_or, q_or1, q_or2, q_not, q_not1, q_yes, q_andV, q_andV1, q_andV2, q_orV, q_orV1, q_orV2, q_notV, q_notV1, q_ifE, q_ifE1, q_ifE2, q_nil, q_cons, q_cons1, q_cons2, q_tup, q_tup1, q_lst, q_lst1, q_cb, q_cb1, q_lenV, q_lenV1, q_seq, q_seq1, q_sl, q_st, q_so, q_sb, q_sf, q_mu, q_mu1, q_mu2, q_muS, q_muS1, q_muS2, q_app, q_app1, q_app2, q_pop, q_pop1, q_rev, q_rev1, q_isi, q_isi1, q_inV, q_inV1, q_ixV, q_ixV1, q_ixV2, q_ixV3, q_ixL, q_ixT, q_kV, q_fI, q_addI, q_eqI, q_eqS, q_eqB, q_int, q_tupL, q_tupT, q_listL, q_listT, q_len1, q_len2, q_neg, q_neg1, q_call, q_call2, q_call3, q_call4, q_cnil, q_ccons, q_ccons1, q_ccons2, q_cb', q_cb'1, q_ar0, q_ar1, q_ar2, q_ar3, q_ar4, q_ar5, q_put0, q_put1, q_put2, q_put3, q_put4, q_put5, q_bix0, q_bix1, q_bix2, q_sq, q_sq1, q_sq2, q_sq3, q_sq4, q_snil, q_ret, q_ret1, q_expr, q_expr1, q_ifS, q_ifS1, q_ifS2, q_set, q_set1, q_asg, q_asg1, q_gname, q_gnil, q_gcons, q_gcons1, q_par, q_par1, q_aug, q_aug1, q_aug2, q_rng, q_iseq, q_iseq1, q_sd1, q_sd2, q_kP2, q_fro, q_fro1, q_for, q_for1, q_k0, q_k1, q_w0, q_w1, q_lc, q_lc2, q_n1, q_n0, q_run, bO_b, bO_v, bO_n, finB0, finB1, q_at0, q_at1, q_at2, q_at3, q_bs, q_bn, q_ms, q_mn, q_g0, q_gs, q_s0, q_ss, List.head?_cons, List.tail_cons, List.map_cons, List.map_nil, List.length_cons, List.length_nil, List.cons_append, List.nil_append, List.replicate_succ, List.replicate_zero, Nat.reduceSub, Nat.reduceAdd, Bool.false_xor, Bool.true_xor, Bool.not_true, Bool.not_false, beq_self_eq_true, isBool, isInt, isStr, isTuple, q_callI, if_true, ite_true, List.nodup_nil, List.nodup_cons, List.not_mem_nil, not_false_eq_true, and_true, true_and, and_self, q_fg0, q_fg1, q_fg2, q_fg3, q_fg4, q_fg5, q_fg6, q_lg0, q_lg1, q_lg2, q_lg3, q_lg4, q_lg5, q_sub, q_sub1, q_sub2, q_sub3, q_sub4, q_sub5, q_rng2, q_rng2a, q_aS, q_aS1, q_aS2, q_aS3, q_aS4, q_aS5, q_aS5', q_aS7, take_4, h, q_app3 hz]
theorem thing_eq (dr : List Int) (c : Int) : ∃ d dr', f_Lthing [.bor (E dr), .val (.int c)] = some (.val d, [some (.bor (E dr')), none]) := by
  unfold f_Lthing b_Lthing
  cases h1 : (((tn dr 12 : Nat) : Int) == 11) with
  | true =>
    refine ⟨.int c, dr.tail, ?_⟩
    simp only [q_var, q_var1, q_var2, q_mv, q_mv1, q_mv2, q_c, q_pr, q_bin, q_bin1, q_bin2, q_dv, q_do, q_tst, q_tst1, q_isN, q_isN0, q_isN1, q_isN2, q_isN3, q_isN4, q_isN5, q_and, q_and1, q_and2, q_or, q_or1, q_or2, q_not, q_not1, q_yes, q_andV, q_andV1, q_andV2, q_orV, q_orV1, q_orV2, q_notV, q_notV1, q_ifE, q_ifE1, q_ifE2, q_nil, q_cons, q_cons1, q_cons2, q_tup, q_tup1, q_lst, q_lst1, q_cb, q_cb1, q_lenV, q_lenV1, q_seq, q_seq1, q_sl, q_st, q_so, q_sb, q_sf, q_mu, q_mu1, q_mu2, q_muS, q_muS1, q_muS2, q_app, q_app1, q_app2, q_pop, q_pop1, q_rev, q_rev1, q_isi, q_isi1, q_inV, q_inV1, q_ixV, q_ixV1, q_ixV2, q_ixV3, q_ixL, q_ixT, q_kV, q_fI, q_addI, q_eqI, q_eqS, q_eqB, q_int, q_tupL, q_tupT, q_listL, q_listT, q_len1, q_len2, q_neg, q_neg1, q_call, q_call2, q_call3, q_call4, q_cnil, q_ccons, q_ccons1, q_ccons2, q_cb', q_cb'1, q_ar0, q_ar1, q_ar2, q_ar3, q_ar4, q_ar5, q_put0, q_put1, q_put2, q_put3, q_put4, q_put5, q_bix0, q_bix1, q_bix2, q_sq, q_sq1, q_sq2, q_sq3, q_sq4, q_snil, q_ret, q_ret1, q_expr, q_expr1, q_ifS, q_ifS1, q_ifS2, q_set, q_set1, q_asg, q_asg1, q_gname, q_gnil, q_gcons, q_gcons1, q_par, q_par1, q_aug, q_aug1, q_aug2, q_rng, q_iseq, q_iseq1, q_sd1, q_sd2, q_kP2, q_fro, q_fro1, q_for, q_for1, q_k0, q_k1, q_w0, q_w1, q_lc, q_lc2, q_n1, q_n0, q_run, bO_b, bO_v, bO_n, finB0, finB1, q_at0, q_at1, q_at2, q_at3, q_bs, q_bn, q_ms, q_mn, q_g0, q_gs, q_s0, q_ss, List.head?_cons, List.tail_cons, List.map_cons, List.map_nil, List.length_cons, List.length_nil, List.cons_append, List.nil_append, List.replicate_succ, List.replicate_zero, Nat.reduceSub, Nat.reduceAdd, Bool.false_xor, Bool.true_xor, Bool.not_true, Bool.not_false, beq_self_eq_true, isBool, isInt, isStr, isTuple, q_callI, if_true, ite_true, List.nodup_nil, List.nodup_cons, List.not_mem_nil, not_false_eq_true, and_true, true_and, and_self, q_fg0, q_fg1, q_fg2, q_fg3, q_fg4, q_fg5, q_fg6, q_lg0, q_lg1, q_lg2, q_lg3, q_lg4, q_lg5, q_sub, q_sub1, q_sub2, q_sub3, q_sub4, q_sub5, q_rng2, q_rng2a, q_aS, q_aS1, q_aS2, q_aS3, q_aS4, q_aS5, q_aS5', q_aS7, take_12, h1]
  | false =>
    cases h2 : decide (((tn dr 12 : Nat) : Int) < 6) with
    | true =>
      refine ⟨.int (((tn dr.tail 4 : Nat) : Int) - 1), dr.tail.tail, ?_⟩
      simp only [q_var, q_var1, q_var2, q_mv, q_mv1, q_mv2, q_c, q_pr, q_bin, q_bin1, q_bin2, q_dv, q_do, q_tst, q_tst1, q_isN, q_isN0, q_isN1, q_isN2, q_isN3, q_isN4, q_isN5, q_and, q_and1, q_and2, q_or, q_or1, q_or2, q_not, q_not1, q_yes, q_andV, q_andV1, q_andV2, q_orV, q_orV1, q_orV2, q_notV, q_notV1, q_ifE, q_ifE1, q_ifE2, q_nil, q_cons, q_cons1, q_cons2, q_tup, q_tup1, q_lst, q_lst1, q_cb, q_cb1, q_lenV, q_lenV1, q_seq, q_seq1, q_sl, q_st, q_so, q_sb, q_sf, q_mu, q_mu1, q_mu2, q_muS, q_muS1, q_muS2, q_app, q_app1, q_app2, q_pop, q_pop1, q_rev, q_rev1, q_isi, q_isi1, q_inV, q_inV1, q_ixV, q_ixV1, q_ixV2, q_ixV3, q_ixL, q_ixT, q_kV, q_fI, q_addI, q_eqI, q_eqS, q_eqB, q_int, q_tupL, q_tupT, q_listL, q_listT, q_len1, q_len2, q_neg, q_neg1, q_call, q_call2, q_call3, q_call4, q_cnil, q_ccons, q_ccons1, q_ccons2, q_cb', q_cb'1, q_ar0, q_ar1, q_ar2, q_ar3, q_ar4, q_ar5, q_put0, q_put1, q_put2, q_put3, q_put4, q_put5, q_bix0, q_bix1, q_bix2, q_sq, q_sq1, q_sq2, q_sq3, q_sq4, q_snil, q_ret, q_ret1, q_expr, q_expr1, q_ifS, q_ifS1, q_ifS2, q_set, q_set1, q_asg, q_asg1, q_gname, q_gnil, q_gcons, q_gcons1, q_par, q_par1, q_aug, q_aug1, q_aug2, q_rng, q_iseq, q_iseq1, q_sd1, q_sd2, q_kP2, q_fro, q_fro1, q_for, q_for1, q_k0, q_k1, q_w0, q_w1, q_lc, q_lc2, q_n1, q_n0, q_run, bO_b, bO_v, bO_n, finB0, finB1, q_at0, q_at1, q_at2, q_at3, q_bs, q_bn, q_ms, q_mn, q_g0, q_gs, q_s0, q_ss, List.head?_cons, List.tail_cons, List.map_cons, List.map_nil, List.length_cons, List.length_nil, List.cons_append, List.nil_append, List.replicate_succ, List.replicate_zero, Nat.reduceSub, Nat.reduceAdd, Bool.false_xor, Bool.true_xor, Bool.not_true, Bool.not_false, beq_self_eq_true, isBool, isInt, isStr, isTuple, q_callI, if_true, ite_true, List.nodup_nil, List.nodup_cons, List.not_mem_nil, not_false_eq_true, and_true, true_and, and_self, q_fg0, q_fg1, q_fg2, q_fg3, q_fg4, q_fg5, q_fg6, q_lg0, q_lg1, q_lg2, q_lg3, q_lg4, q_lg5, q_sub, q_sub1, q_sub2, q_sub3, q_sub4, q_sub5, q_rng2, q_rng2a, q_aS, q_aS1, q_aS2, q_aS3, q_aS4, q_aS5, q_aS5', q_aS7, take_12, take_4, h1, h2]
    | false =>
      have hlt := tn_lt dr.tail (n := 4) (by omega)
      obtain ⟨ρ', H1, dr', row, hl, hρ⟩ := for_inv (g := rgName 4) (b := w_Lthing_2) (ks := [4, 5]) (ds := rng 0 (tn dr.tail 4)) (ρ := [some (.bor (E dr.tail.tail)), some (.val (.int c)), some (.val (.int ((tn dr 12 : Nat) : Int))), some (.own []), none, none])
        (fun i ρ => ∃ dr' row, row.length = i ∧ ρ = [some (.bor (E dr')), some (.val (.int c)), some (.val (.int ((tn dr 12 : Nat) : Int))), some (.own row), none, none]) 0 ⟨dr.tail.tail, [], rfl, rfl⟩ fun i d ρ hd h => by
          obtain ⟨dr1, row, hl, rfl⟩ := h
          obtain ⟨hi, rfl⟩ := rng_get hd
          obtain ⟨dr2, d, ρ1, ρ2, h1, h2, h3⟩ := thing_w dr1 c ((tn dr 12 : Nat) : Int) row (by omega) (0 + (i : Int))
          exact ⟨ρ1, ρ2, h1, h2, dr2, row ++ [d], by rw [List.length_append, hl]; rfl, h3⟩
      rw [hρ] at H1
      refine ⟨.tuple row, dr', ?_⟩
      simp only [q_var, q_var1, q_var2, q_mv, q_mv1, q_mv2, q_c, q_pr, q_bin, q_bin1, q_bin2, q_dv, q_do, q_tst, q_tst1, q_isN, q_isN0, q_isN1, q_isN2, q_isN3, q_isN4, q_isN5, q_and, q_and1, q_and2, q_or, q_or1, q_or2, q_not, q_not1, q_yes, q_andV, q_andV1, q_andV2, q_orV, q_orV1, q_orV2, q_notV, q_notV1, q_ifE, q_ifE1, q_ifE2, q_nil, q_cons, q_cons1, q_cons2, q_tup, q_tup1, q_lst, q_lst1, q_cb, q_cb1, q_lenV, q_lenV1, q_seq, q_seq1, q_sl, q_st, q_so, q_sb, q_sf, q_mu, q_mu1, q_mu2, q_muS, q_muS1, q_muS2, q_app, q_app1, q_app2, q_pop, q_pop1, q_rev, q_rev1, q_isi, q_isi1, q_inV, q_inV1, q_ixV, q_ixV1, q_ixV2, q_ixV3, q_ixL, q_ixT, q_kV, q_fI, q_addI, q_eqI, q_eqS, q_eqB, q_int, q_tupL, q_tupT, q_listL, q_listT, q_len1, q_len2, q_neg, q_neg1, q_call, q_call2, q_call3, q_call4, q_cnil, q_ccons, q_ccons1, q_ccons2, q_cb', q_cb'1, q_ar0, q_ar1, q_ar2, q_ar3, q_ar4, q_ar5, q_put0, q_put1, q_put2, q_put3, q_put4, q_put5, q_bix0, q_bix1, q_bix2, q_sq, q_sq1, q_sq2, q_sq3, q_sq4, q_snil, q_ret, q_ret1, q_expr, q_expr1, q_ifS, q_ifS1, q_ifS2, q_set, q_set1, q_asg, q_asg1, q_gname, q_gnil, q_gcons, q_gcons1, q_par, q_par1, q_aug, q_aug1, q_aug2, q_rng, q_iseq, q_iseq1, q_sd1, q_sd2, q_kP2, q_fro, q_fro1, q_for, q_for1, q_k0, q_k1, q_w0, q_w1, q_lc, q_lc2, q_n1, q_n0, q_run, bO_b, bO_v, bO_n, finB0, finB1, q_at0, q_at1, q_at2, q_at3, q_bs, q_bn, q_ms, q_mn, q_g0, q_gs, q_s0, q_ss, List.head?_cons, List.tail_cons, List.map_cons, List.map_nil, List.length_cons, List.length_nil, List.cons_append, List.nil_append, List.replicate_succ, List.replicate_zero, Nat.reduceSub, Nat.reduceAdd, Bool.false_xor, Bool.true_xor, Bool.not_true, Bool.not_false, beq_self_eq_true, isBool, isInt, isStr, isTuple, q_callI, if_true, ite_true, List.nodup_nil, List.nodup_cons, List.not_mem_nil, not_false_eq_true, and_true, true_and, and_self, q_fg0, q_fg1, q_fg2, q_fg3, q_fg4, q_fg5, q_fg6, q_lg0, q_lg1, q_lg2, q_lg3, q_lg4, q_lg5, q_sub, q_sub1, q_sub2, q_sub3, q_sub4, q_sub5, q_rng2, q_rng2a, q_aS, q_aS1, q_aS2, q_aS3, q_aS4, q_aS5, q_aS5', q_aS7, take_12, take_4, h1, h2, q_rng1 (n62 (show tn dr.tail 4 ≤ 1000 by omega)), Int.toNat_natCast, H1]
/-! ### _law_simple, _law_fall, _law_build -/
theorem simple_eq (dr : List Int) (falls : Nat) (c : Int) : ∃ d dr', f_Lsimple [.bor (E dr), .val (.int (falls : Int)), .val (.int c)] = some (.val d, [some (.bor (E dr')), none, none]) := by
  unfold f_Lsimple b_Lsimple
  cases h1 : decide ((0 : Int) < (falls : Int)) with
  | false =>
    obtain ⟨d, dr', h⟩ := thing_eq dr c
    refine ⟨.tuple [.str "know", d], dr', ?_⟩
    simp only [q_var, q_var1, q_var2, q_mv, q_mv1, q_mv2, q_c, q_pr, q_bin, q_bin1, q_bin2, q_dv, q_do, q_tst, q_tst1, q_isN, q_isN0, q_isN1, q_isN2, q_isN3, q_isN4, q_isN5, q_and, q_and1, q_and2, q_or, q_or1, q_or2, q_not, q_not1, q_yes, q_andV, q_andV1, q_andV2, q_orV, q_orV1, q_orV2, q_notV, q_notV1, q_ifE, q_ifE1, q_ifE2, q_nil, q_cons, q_cons1, q_cons2, q_tup, q_tup1, q_lst, q_lst1, q_cb, q_cb1, q_lenV, q_lenV1, q_seq, q_seq1, q_sl, q_st, q_so, q_sb, q_sf, q_mu, q_mu1, q_mu2, q_muS, q_muS1, q_muS2, q_app, q_app1, q_app2, q_pop, q_pop1, q_rev, q_rev1, q_isi, q_isi1, q_inV, q_inV1, q_ixV, q_ixV1, q_ixV2, q_ixV3, q_ixL, q_ixT, q_kV, q_fI, q_addI, q_eqI, q_eqS, q_eqB, q_int, q_tupL, q_tupT, q_listL, q_listT, q_len1, q_len2, q_neg, q_neg1, q_call, q_call2, q_call3, q_call4, q_cnil, q_ccons, q_ccons1, q_ccons2, q_cb', q_cb'1, q_ar0, q_ar1, q_ar2, q_ar3, q_ar4, q_ar5, q_put0, q_put1, q_put2, q_put3, q_put4, q_put5, q_bix0, q_bix1, q_bix2, q_sq, q_sq1, q_sq2, q_sq3, q_sq4, q_snil, q_ret, q_ret1, q_expr, q_expr1, q_ifS, q_ifS1, q_ifS2, q_set, q_set1, q_asg, q_asg1, q_gname, q_gnil, q_gcons, q_gcons1, q_par, q_par1, q_aug, q_aug1, q_aug2, q_rng, q_iseq, q_iseq1, q_sd1, q_sd2, q_kP2, q_fro, q_fro1, q_for, q_for1, q_k0, q_k1, q_w0, q_w1, q_lc, q_lc2, q_n1, q_n0, q_run, bO_b, bO_v, bO_n, finB0, finB1, q_at0, q_at1, q_at2, q_at3, q_bs, q_bn, q_ms, q_mn, q_g0, q_gs, q_s0, q_ss, List.head?_cons, List.tail_cons, List.map_cons, List.map_nil, List.length_cons, List.length_nil, List.cons_append, List.nil_append, List.replicate_succ, List.replicate_zero, Nat.reduceSub, Nat.reduceAdd, Bool.false_xor, Bool.true_xor, Bool.not_true, Bool.not_false, beq_self_eq_true, isBool, isInt, isStr, isTuple, q_callI, if_true, ite_true, List.nodup_nil, List.nodup_cons, List.not_mem_nil, not_false_eq_true, and_true, true_and, and_self, q_fg0, q_fg1, q_fg2, q_fg3, q_fg4, q_fg5, q_fg6, q_lg0, q_lg1, q_lg2, q_lg3, q_lg4, q_lg5, q_sub, q_sub1, q_sub2, q_sub3, q_sub4, q_sub5, q_rng2, q_rng2a, q_aS, q_aS1, q_aS2, q_aS3, q_aS4, q_aS5, q_aS5', q_aS7, h1, h]
  | true =>
    have hf : 0 < falls := by have := of_decide_eq_true h1; omega
    cases h2 : decide ((0 : Int) < ((tn dr 3 : Nat) : Int)) with
    | true =>
      refine ⟨.tuple [.str "of", .int ((tn dr.tail falls : Nat) : Int)], dr.tail.tail, ?_⟩
      simp only [q_var, q_var1, q_var2, q_mv, q_mv1, q_mv2, q_c, q_pr, q_bin, q_bin1, q_bin2, q_dv, q_do, q_tst, q_tst1, q_isN, q_isN0, q_isN1, q_isN2, q_isN3, q_isN4, q_isN5, q_and, q_and1, q_and2, q_or, q_or1, q_or2, q_not, q_not1, q_yes, q_andV, q_andV1, q_andV2, q_orV, q_orV1, q_orV2, q_notV, q_notV1, q_ifE, q_ifE1, q_ifE2, q_nil, q_cons, q_cons1, q_cons2, q_tup, q_tup1, q_lst, q_lst1, q_cb, q_cb1, q_lenV, q_lenV1, q_seq, q_seq1, q_sl, q_st, q_so, q_sb, q_sf, q_mu, q_mu1, q_mu2, q_muS, q_muS1, q_muS2, q_app, q_app1, q_app2, q_pop, q_pop1, q_rev, q_rev1, q_isi, q_isi1, q_inV, q_inV1, q_ixV, q_ixV1, q_ixV2, q_ixV3, q_ixL, q_ixT, q_kV, q_fI, q_addI, q_eqI, q_eqS, q_eqB, q_int, q_tupL, q_tupT, q_listL, q_listT, q_len1, q_len2, q_neg, q_neg1, q_call, q_call2, q_call3, q_call4, q_cnil, q_ccons, q_ccons1, q_ccons2, q_cb', q_cb'1, q_ar0, q_ar1, q_ar2, q_ar3, q_ar4, q_ar5, q_put0, q_put1, q_put2, q_put3, q_put4, q_put5, q_bix0, q_bix1, q_bix2, q_sq, q_sq1, q_sq2, q_sq3, q_sq4, q_snil, q_ret, q_ret1, q_expr, q_expr1, q_ifS, q_ifS1, q_ifS2, q_set, q_set1, q_asg, q_asg1, q_gname, q_gnil, q_gcons, q_gcons1, q_par, q_par1, q_aug, q_aug1, q_aug2, q_rng, q_iseq, q_iseq1, q_sd1, q_sd2, q_kP2, q_fro, q_fro1, q_for, q_for1, q_k0, q_k1, q_w0, q_w1, q_lc, q_lc2, q_n1, q_n0, q_run, bO_b, bO_v, bO_n, finB0, finB1, q_at0, q_at1, q_at2, q_at3, q_bs, q_bn, q_ms, q_mn, q_g0, q_gs, q_s0, q_ss, List.head?_cons, List.tail_cons, List.map_cons, List.map_nil, List.length_cons, List.length_nil, List.cons_append, List.nil_append, List.replicate_succ, List.replicate_zero, Nat.reduceSub, Nat.reduceAdd, Bool.false_xor, Bool.true_xor, Bool.not_true, Bool.not_false, beq_self_eq_true, isBool, isInt, isStr, isTuple, q_callI, if_true, ite_true, List.nodup_nil, List.nodup_cons, List.not_mem_nil, not_false_eq_true, and_true, true_and, and_self, q_fg0, q_fg1, q_fg2, q_fg3, q_fg4, q_fg5, q_fg6, q_lg0, q_lg1, q_lg2, q_lg3, q_lg4, q_lg5, q_sub, q_sub1, q_sub2, q_sub3, q_sub4, q_sub5, q_rng2, q_rng2a, q_aS, q_aS1, q_aS2, q_aS3, q_aS4, q_aS5, q_aS5', q_aS7, h1, take_3, h2, take_n dr.tail hf]
    | false =>
      obtain ⟨d, dr', h⟩ := thing_eq dr.tail c
      refine ⟨.tuple [.str "know", d], dr', ?_⟩
      simp only [q_var, q_var1, q_var2, q_mv, q_mv1, q_mv2, q_c, q_pr, q_bin, q_bin1, q_bin2, q_dv, q_do, q_tst, q_tst1, q_isN, q_isN0, q_isN1, q_isN2, q_isN3, q_isN4, q_isN5, q_and, q_and1, q_and2, q_or, q_or1, q_or2, q_not, q_not1, q_yes, q_andV, q_andV1, q_andV2, q_orV, q_orV1, q_orV2, q_notV, q_notV1, q_ifE, q_ifE1, q_ifE2, q_nil, q_cons, q_cons1, q_cons2, q_tup, q_tup1, q_lst, q_lst1, q_cb, q_cb1, q_lenV, q_lenV1, q_seq, q_seq1, q_sl, q_st, q_so, q_sb, q_sf, q_mu, q_mu1, q_mu2, q_muS, q_muS1, q_muS2, q_app, q_app1, q_app2, q_pop, q_pop1, q_rev, q_rev1, q_isi, q_isi1, q_inV, q_inV1, q_ixV, q_ixV1, q_ixV2, q_ixV3, q_ixL, q_ixT, q_kV, q_fI, q_addI, q_eqI, q_eqS, q_eqB, q_int, q_tupL, q_tupT, q_listL, q_listT, q_len1, q_len2, q_neg, q_neg1, q_call, q_call2, q_call3, q_call4, q_cnil, q_ccons, q_ccons1, q_ccons2, q_cb', q_cb'1, q_ar0, q_ar1, q_ar2, q_ar3, q_ar4, q_ar5, q_put0, q_put1, q_put2, q_put3, q_put4, q_put5, q_bix0, q_bix1, q_bix2, q_sq, q_sq1, q_sq2, q_sq3, q_sq4, q_snil, q_ret, q_ret1, q_expr, q_expr1, q_ifS, q_ifS1, q_ifS2, q_set, q_set1, q_asg, q_asg1, q_gname, q_gnil, q_gcons, q_gcons1, q_par, q_par1, q_aug, q_aug1, q_aug2, q_rng, q_iseq, q_iseq1, q_sd1, q_sd2, q_kP2, q_fro, q_fro1, q_for, q_for1, q_k0, q_k1, q_w0, q_w1, q_lc, q_lc2, q_n1, q_n0, q_run, bO_b, bO_v, bO_n, finB0, finB1, q_at0, q_at1, q_at2, q_at3, q_bs, q_bn, q_ms, q_mn, q_g0, q_gs, q_s0, q_ss, List.head?_cons, List.tail_cons, List.map_cons, List.map_nil, List.length_cons, List.length_nil, List.cons_append, List.nil_append, List.replicate_succ, List.replicate_zero, Nat.reduceSub, Nat.reduceAdd, Bool.false_xor, Bool.true_xor, Bool.not_true, Bool.not_false, beq_self_eq_true, isBool, isInt, isStr, isTuple, q_callI, if_true, ite_true, List.nodup_nil, List.nodup_cons, List.not_mem_nil, not_false_eq_true, and_true, true_and, and_self, q_fg0, q_fg1, q_fg2, q_fg3, q_fg4, q_fg5, q_fg6, q_lg0, q_lg1, q_lg2, q_lg3, q_lg4, q_lg5, q_sub, q_sub1, q_sub2, q_sub3, q_sub4, q_sub5, q_rng2, q_rng2a, q_aS, q_aS1, q_aS2, q_aS3, q_aS4, q_aS5, q_aS5', q_aS7, h1, take_3, h2, h]
theorem at_ex {ds : List D} {k : Nat} (h : k < ds.length) : ∃ d, atI ds (k : Int) = some d := ⟨_, at_nat (List.getElem?_eq_getElem h)⟩
theorem fall_eq (dr : List Int) (falls many : Nat) (c : Int) : ∃ d dr', f_Lfall [.bor (E dr), .val (.int (falls : Int)), .val (.int (many : Int)), .val (.int c)] = some (.val d, [some (.bor (E dr')), none, none, none]) := by
  obtain ⟨d1, dr1, h1⟩ := simple_eq dr.tail falls c
  have hp := tn_lt dr (n := 16) (by omega)
  unfold f_Lfall b_Lfall
  cases c1 : decide (((tn dr 16 : Nat) : Int) < 4) with
  | true =>
    refine ⟨d1, dr1, ?_⟩
    simp only [q_var, q_var1, q_var2, q_mv, q_mv1, q_mv2, q_c, q_pr, q_bin, q_bin1, q_bin2, q_dv, q_do, q_tst, q_tst1, q_isN, q_isN0, q_isN1, q_isN2, q_isN3, q_isN4, q_isN5, q_and, q_and1, q_and2, q_or, q_or1, q_or2, q_not, q_not1, q_yes, q_andV, q_andV1, q_andV2, q_orV, q_orV1, q_orV2, q_notV, q_notV1, q_ifE, q_ifE1, q_ifE2, q_nil, q_cons, q_cons1, q_cons2, q_tup, q_tup1, q_lst, q_lst1, q_cb, q_cb1, q_lenV, q_lenV1, q_seq, q_seq1, q_sl, q_st, q_so, q_sb, q_sf, q_mu, q_mu1, q_mu2, q_muS, q_muS1, q_muS2, q_app, q_app1, q_app2, q_pop, q_pop1, q_rev, q_rev1, q_isi, q_isi1, q_inV, q_inV1, q_ixV, q_ixV1, q_ixV2, q_ixV3, q_ixL, q_ixT, q_kV, q_fI, q_addI, q_eqI, q_eqS, q_eqB, q_int, q_tupL, q_tupT, q_listL, q_listT, q_len1, q_len2, q_neg, q_neg1, q_call, q_call2, q_call3, q_call4, q_cnil, q_ccons, q_ccons1, q_ccons2, q_cb', q_cb'1, q_ar0, q_ar1, q_ar2, q_ar3, q_ar4, q_ar5, q_put0, q_put1, q_put2, q_put3, q_put4, q_put5, q_bix0, q_bix1, q_bix2, q_sq, q_sq1, q_sq2, q_sq3, q_sq4, q_snil, q_ret, q_ret1, q_expr, q_expr1, q_ifS, q_ifS1, q_ifS2, q_set, q_set1, q_asg, q_asg1, q_gname, q_gnil, q_gcons, q_gcons1, q_par, q_par1, q_aug, q_aug1, q_aug2, q_rng, q_iseq, q_iseq1, q_sd1, q_sd2, q_kP2, q_fro, q_fro1, q_for, q_for1, q_k0, q_k1, q_w0, q_w1, q_lc, q_lc2, q_n1, q_n0, q_run, bO_b, bO_v, bO_n, finB0, finB1, q_at0, q_at1, q_at2, q_at3, q_bs, q_bn, q_ms, q_mn, q_g0, q_gs, q_s0, q_ss, List.head?_cons, List.tail_cons, List.map_cons, List.map_nil, List.length_cons, List.length_nil, List.cons_append, List.nil_append, List.replicate_succ, List.replicate_zero, Nat.reduceSub, Nat.reduceAdd, Bool.false_xor, Bool.true_xor, Bool.not_true, Bool.not_false, beq_self_eq_true, isBool, isInt, isStr, isTuple, q_callI, if_true, ite_true, List.nodup_nil, List.nodup_cons, List.not_mem_nil, not_false_eq_true, and_true, true_and, and_self, q_fg0, q_fg1, q_fg2, q_fg3, q_fg4, q_fg5, q_fg6, q_lg0, q_lg1, q_lg2, q_lg3, q_lg4, q_lg5, q_sub, q_sub1, q_sub2, q_sub3, q_sub4, q_sub5, q_rng2, q_rng2a, q_aS, q_aS1, q_aS2, q_aS3, q_aS4, q_aS5, q_aS5', q_aS7, take_16, h1, c1]
  | false =>
    have c1' := of_decide_eq_false c1
    have tail : kAnd (rdTst (rdBin fGt (rdVar 2) (rdVar 1))) (decide (((tn dr 16 : Nat) : Int) < 7), [some (.bor (E dr1)), some (.val (.int (falls : Int))), some (.val (.int (many : Int))), some (.val (.int c)), some (.val (.int ((tn dr 16 : Nat) : Int))), some (.val d1), none, none]) = some (decide (((tn dr 16 : Nat) : Int) < 7) && decide ((falls : Int) < (many : Int)), [some (.bor (E dr1)), some (.val (.int (falls : Int))), some (.val (.int (many : Int))), some (.val (.int c)), some (.val (.int ((tn dr 16 : Nat) : Int))), some (.val d1), none, none]) := by
      cases c2 : decide (((tn dr 16 : Nat) : Int) < 7) with
      | true => simp only [q_var, q_var1, q_var2, q_mv, q_mv1, q_mv2, q_c, q_pr, q_bin, q_bin1, q_bin2, q_dv, q_do, q_tst, q_tst1, q_isN, q_isN0, q_isN1, q_isN2, q_isN3, q_isN4, q_isN5, q_and, q_and1, q_and2, q_or, q_or1, q_or2, q_not, q_not1, q_yes, q_andV, q_andV1, q_andV2, q_orV, q_orV1, q_orV2, q_notV, q_notV1, q_ifE, q_ifE1, q_ifE2, q_nil, q_cons, q_cons1, q_cons2, q_tup, q_tup1, q_lst, q_lst1, q_cb, q_cb1, q_lenV, q_lenV1, q_seq, q_seq1, q_sl, q_st, q_so, q_sb, q_sf, q_mu, q_mu1, q_mu2, q_muS, q_muS1, q_muS2, q_app, q_app1, q_app2, q_pop, q_pop1, q_rev, q_rev1, q_isi, q_isi1, q_inV, q_inV1, q_ixV, q_ixV1, q_ixV2, q_ixV3, q_ixL, q_ixT, q_kV, q_fI, q_addI, q_eqI, q_eqS, q_eqB, q_int, q_tupL, q_tupT, q_listL, q_listT, q_len1, q_len2, q_neg, q_neg1, q_call, q_call2, q_call3, q_call4, q_cnil, q_ccons, q_ccons1, q_ccons2, q_cb', q_cb'1, q_ar0, q_ar1, q_ar2, q_ar3, q_ar4, q_ar5, q_put0, q_put1, q_put2, q_put3, q_put4, q_put5, q_bix0, q_bix1, q_bix2, q_sq, q_sq1, q_sq2, q_sq3, q_sq4, q_snil, q_ret, q_ret1, q_expr, q_expr1, q_ifS, q_ifS1, q_ifS2, q_set, q_set1, q_asg, q_asg1, q_gname, q_gnil, q_gcons, q_gcons1, q_par, q_par1, q_aug, q_aug1, q_aug2, q_rng, q_iseq, q_iseq1, q_sd1, q_sd2, q_kP2, q_fro, q_fro1, q_for, q_for1, q_k0, q_k1, q_w0, q_w1, q_lc, q_lc2, q_n1, q_n0, q_run, bO_b, bO_v, bO_n, finB0, finB1, q_at0, q_at1, q_at2, q_at3, q_bs, q_bn, q_ms, q_mn, q_g0, q_gs, q_s0, q_ss, List.head?_cons, List.tail_cons, List.map_cons, List.map_nil, List.length_cons, List.length_nil, List.cons_append, List.nil_append, List.replicate_succ, List.replicate_zero, Nat.reduceSub, Nat.reduceAdd, Bool.false_xor, Bool.true_xor, Bool.not_true, Bool.not_false, beq_self_eq_true, isBool, isInt, isStr, isTuple, q_callI, if_true, ite_true, List.nodup_nil, List.nodup_cons, List.not_mem_nil, not_false_eq_true, and_true, true_and, and_self, q_fg0, q_fg1, q_fg2, q_fg3, q_fg4, q_fg5, q_fg6, q_lg0, q_lg1, q_lg2, q_lg3, q_lg4, q_lg5, q_sub, q_sub1, q_sub2, q_sub3, q_sub4, q_sub5, q_rng2, q_rng2a, q_aS, q_aS1, q_aS2, q_aS3, q_aS4, q_aS5, q_aS5', q_aS7, Bool.true_and]
      | false => simp only [q_var, q_var1, q_var2, q_mv, q_mv1, q_mv2, q_c, q_pr, q_bin, q_bin1, q_bin2, q_dv, q_do, q_tst, q_tst1, q_isN, q_isN0, q_isN1, q_isN2, q_isN3, q_isN4, q_isN5, q_and, q_and1, q_and2, q_or, q_or1, q_or2, q_not, q_not1, q_yes, q_andV, q_andV1, q_andV2, q_orV, q_orV1, q_orV2, q_notV, q_notV1, q_ifE, q_ifE1, q_ifE2, q_nil, q_cons, q_cons1, q_cons2, q_tup, q_tup1, q_lst, q_lst1, q_cb, q_cb1, q_lenV, q_lenV1, q_seq, q_seq1, q_sl, q_st, q_so, q_sb, q_sf, q_mu, q_mu1, q_mu2, q_muS, q_muS1, q_muS2, q_app, q_app1, q_app2, q_pop, q_pop1, q_rev, q_rev1, q_isi, q_isi1, q_inV, q_inV1, q_ixV, q_ixV1, q_ixV2, q_ixV3, q_ixL, q_ixT, q_kV, q_fI, q_addI, q_eqI, q_eqS, q_eqB, q_int, q_tupL, q_tupT, q_listL, q_listT, q_len1, q_len2, q_neg, q_neg1, q_call, q_call2, q_call3, q_call4, q_cnil, q_ccons, q_ccons1, q_ccons2, q_cb', q_cb'1, q_ar0, q_ar1, q_ar2, q_ar3, q_ar4, q_ar5, q_put0, q_put1, q_put2, q_put3, q_put4, q_put5, q_bix0, q_bix1, q_bix2, q_sq, q_sq1, q_sq2, q_sq3, q_sq4, q_snil, q_ret, q_ret1, q_expr, q_expr1, q_ifS, q_ifS1, q_ifS2, q_set, q_set1, q_asg, q_asg1, q_gname, q_gnil, q_gcons, q_gcons1, q_par, q_par1, q_aug, q_aug1, q_aug2, q_rng, q_iseq, q_iseq1, q_sd1, q_sd2, q_kP2, q_fro, q_fro1, q_for, q_for1, q_k0, q_k1, q_w0, q_w1, q_lc, q_lc2, q_n1, q_n0, q_run, bO_b, bO_v, bO_n, finB0, finB1, q_at0, q_at1, q_at2, q_at3, q_bs, q_bn, q_ms, q_mn, q_g0, q_gs, q_s0, q_ss, List.head?_cons, List.tail_cons, List.map_cons, List.map_nil, List.length_cons, List.length_nil, List.cons_append, List.nil_append, List.replicate_succ, List.replicate_zero, Nat.reduceSub, Nat.reduceAdd, Bool.false_xor, Bool.true_xor, Bool.not_true, Bool.not_false, beq_self_eq_true, isBool, isInt, isStr, isTuple, q_callI, if_true, ite_true, List.nodup_nil, List.nodup_cons, List.not_mem_nil, not_false_eq_true, and_true, true_and, and_self, q_fg0, q_fg1, q_fg2, q_fg3, q_fg4, q_fg5, q_fg6, q_lg0, q_lg1, q_lg2, q_lg3, q_lg4, q_lg5, q_sub, q_sub1, q_sub2, q_sub3, q_sub4, q_sub5, q_rng2, q_rng2a, q_aS, q_aS1, q_aS2, q_aS3, q_aS4, q_aS5, q_aS5', q_aS7, Bool.false_and]
    cases c2 : (decide (((tn dr 16 : Nat) : Int) < 7) && decide ((falls : Int) < (many : Int))) with
    | true =>
      rw [c2] at tail
      rw [Bool.and_eq_true] at c2
      have c3 := of_decide_eq_true c2.1
      have c4 := of_decide_eq_true c2.2
      have ht := take_n dr1 (n := many - falls) (by omega)
      have e : ((many - falls : Nat) : Int) = (many : Int) - (falls : Int) := by omega
      rw [e] at ht
      have e2 : ((tn dr 16 : Nat) : Int) - 4 = ((tn dr 16 - 4 : Nat) : Int) := by omega
      obtain ⟨d, hd⟩ := at_ex (ds := [.tuple [.str "first", .tuple [.str "of", .int ((falls : Int) + ((tn dr1 (many - falls) : Nat) : Int))]], .tuple [.str "some", .tuple [.str "of", .int ((falls : Int) + ((tn dr1 (many - falls) : Nat) : Int))]], .tuple [.str "length", .tuple [.str "of", .int ((falls : Int) + ((tn dr1 (many - falls) : Nat) : Int))]]]) (k := tn dr 16 - 4) (by simp only [List.length_cons, List.length_nil]; omega)
      refine ⟨d, dr1.tail, ?_⟩
      simp only [q_var, q_var1, q_var2, q_mv, q_mv1, q_mv2, q_c, q_pr, q_bin, q_bin1, q_bin2, q_dv, q_do, q_tst, q_tst1, q_isN, q_isN0, q_isN1, q_isN2, q_isN3, q_isN4, q_isN5, q_and, q_and1, q_and2, q_or, q_or1, q_or2, q_not, q_not1, q_yes, q_andV, q_andV1, q_andV2, q_orV, q_orV1, q_orV2, q_notV, q_notV1, q_ifE, q_ifE1, q_ifE2, q_nil, q_cons, q_cons1, q_cons2, q_tup, q_tup1, q_lst, q_lst1, q_cb, q_cb1, q_lenV, q_lenV1, q_seq, q_seq1, q_sl, q_st, q_so, q_sb, q_sf, q_mu, q_mu1, q_mu2, q_muS, q_muS1, q_muS2, q_app, q_app1, q_app2, q_pop, q_pop1, q_rev, q_rev1, q_isi, q_isi1, q_inV, q_inV1, q_ixV, q_ixV1, q_ixV2, q_ixV3, q_ixL, q_ixT, q_kV, q_fI, q_addI, q_eqI, q_eqS, q_eqB, q_int, q_tupL, q_tupT, q_listL, q_listT, q_len1, q_len2, q_neg, q_neg1, q_call, q_call2, q_call3, q_call4, q_cnil, q_ccons, q_ccons1, q_ccons2, q_cb', q_cb'1, q_ar0, q_ar1, q_ar2, q_ar3, q_ar4, q_ar5, q_put0, q_put1, q_put2, q_put3, q_put4, q_put5, q_bix0, q_bix1, q_bix2, q_sq, q_sq1, q_sq2, q_sq3, q_sq4, q_snil, q_ret, q_ret1, q_expr, q_expr1, q_ifS, q_ifS1, q_ifS2, q_set, q_set1, q_asg, q_asg1, q_gname, q_gnil, q_gcons, q_gcons1, q_par, q_par1, q_aug, q_aug1, q_aug2, q_rng, q_iseq, q_iseq1, q_sd1, q_sd2, q_kP2, q_fro, q_fro1, q_for, q_for1, q_k0, q_k1, q_w0, q_w1, q_lc, q_lc2, q_n1, q_n0, q_run, bO_b, bO_v, bO_n, finB0, finB1, q_at0, q_at1, q_at2, q_at3, q_bs, q_bn, q_ms, q_mn, q_g0, q_gs, q_s0, q_ss, List.head?_cons, List.tail_cons, List.map_cons, List.map_nil, List.length_cons, List.length_nil, List.cons_append, List.nil_append, List.replicate_succ, List.replicate_zero, Nat.reduceSub, Nat.reduceAdd, Bool.false_xor, Bool.true_xor, Bool.not_true, Bool.not_false, beq_self_eq_true, isBool, isInt, isStr, isTuple, q_callI, if_true, ite_true, List.nodup_nil, List.nodup_cons, List.not_mem_nil, not_false_eq_true, and_true, true_and, and_self, q_fg0, q_fg1, q_fg2, q_fg3, q_fg4, q_fg5, q_fg6, q_lg0, q_lg1, q_lg2, q_lg3, q_lg4, q_lg5, q_sub, q_sub1, q_sub2, q_sub3, q_sub4, q_sub5, q_rng2, q_rng2a, q_aS, q_aS1, q_aS2, q_aS3, q_aS4, q_aS5, q_aS5', q_aS7, take_16, h1, c1, tail, ht, e2, hd]
    | false =>
      rw [c2] at tail
      cases c3 : decide (((tn dr 16 : Nat) : Int) < 9) with
      | true =>
        obtain ⟨d, hd⟩ := at_ex (ds := [.str "first", .str "rest", .str "length", .str "some", .str "listed"]) (k := tn dr1 5) (tn_lt dr1 (n := 5) (by omega))
        refine ⟨.tuple [d, d1], dr1.tail, ?_⟩
        simp only [q_var, q_var1, q_var2, q_mv, q_mv1, q_mv2, q_c, q_pr, q_bin, q_bin1, q_bin2, q_dv, q_do, q_tst, q_tst1, q_isN, q_isN0, q_isN1, q_isN2, q_isN3, q_isN4, q_isN5, q_and, q_and1, q_and2, q_or, q_or1, q_or2, q_not, q_not1, q_yes, q_andV, q_andV1, q_andV2, q_orV, q_orV1, q_orV2, q_notV, q_notV1, q_ifE, q_ifE1, q_ifE2, q_nil, q_cons, q_cons1, q_cons2, q_tup, q_tup1, q_lst, q_lst1, q_cb, q_cb1, q_lenV, q_lenV1, q_seq, q_seq1, q_sl, q_st, q_so, q_sb, q_sf, q_mu, q_mu1, q_mu2, q_muS, q_muS1, q_muS2, q_app, q_app1, q_app2, q_pop, q_pop1, q_rev, q_rev1, q_isi, q_isi1, q_inV, q_inV1, q_ixV, q_ixV1, q_ixV2, q_ixV3, q_ixL, q_ixT, q_kV, q_fI, q_addI, q_eqI, q_eqS, q_eqB, q_int, q_tupL, q_tupT, q_listL, q_listT, q_len1, q_len2, q_neg, q_neg1, q_call, q_call2, q_call3, q_call4, q_cnil, q_ccons, q_ccons1, q_ccons2, q_cb', q_cb'1, q_ar0, q_ar1, q_ar2, q_ar3, q_ar4, q_ar5, q_put0, q_put1, q_put2, q_put3, q_put4, q_put5, q_bix0, q_bix1, q_bix2, q_sq, q_sq1, q_sq2, q_sq3, q_sq4, q_snil, q_ret, q_ret1, q_expr, q_expr1, q_ifS, q_ifS1, q_ifS2, q_set, q_set1, q_asg, q_asg1, q_gname, q_gnil, q_gcons, q_gcons1, q_par, q_par1, q_aug, q_aug1, q_aug2, q_rng, q_iseq, q_iseq1, q_sd1, q_sd2, q_kP2, q_fro, q_fro1, q_for, q_for1, q_k0, q_k1, q_w0, q_w1, q_lc, q_lc2, q_n1, q_n0, q_run, bO_b, bO_v, bO_n, finB0, finB1, q_at0, q_at1, q_at2, q_at3, q_bs, q_bn, q_ms, q_mn, q_g0, q_gs, q_s0, q_ss, List.head?_cons, List.tail_cons, List.map_cons, List.map_nil, List.length_cons, List.length_nil, List.cons_append, List.nil_append, List.replicate_succ, List.replicate_zero, Nat.reduceSub, Nat.reduceAdd, Bool.false_xor, Bool.true_xor, Bool.not_true, Bool.not_false, beq_self_eq_true, isBool, isInt, isStr, isTuple, q_callI, if_true, ite_true, List.nodup_nil, List.nodup_cons, List.not_mem_nil, not_false_eq_true, and_true, true_and, and_self, q_fg0, q_fg1, q_fg2, q_fg3, q_fg4, q_fg5, q_fg6, q_lg0, q_lg1, q_lg2, q_lg3, q_lg4, q_lg5, q_sub, q_sub1, q_sub2, q_sub3, q_sub4, q_sub5, q_rng2, q_rng2a, q_aS, q_aS1, q_aS2, q_aS3, q_aS4, q_aS5, q_aS5', q_aS7, take_16, h1, c1, tail, c3, take_5, hd]
      | false =>
        cases c4 : (((tn dr 16 : Nat) : Int) == 9) with
        | true =>
          obtain ⟨d2, dr2, h2⟩ := simple_eq dr1 falls c
          obtain ⟨d3, dr3, h3⟩ := thing_eq dr2 c
          refine ⟨.tuple [.str "choose", .tuple [.str "some", d1], d2, .tuple [.str "know", d3]], dr3, ?_⟩
          simp only [q_var, q_var1, q_var2, q_mv, q_mv1, q_mv2, q_c, q_pr, q_bin, q_bin1, q_bin2, q_dv, q_do, q_tst, q_tst1, q_isN, q_isN0, q_isN1, q_isN2, q_isN3, q_isN4, q_isN5, q_and, q_and1, q_and2, q_or, q_or1, q_or2, q_not, q_not1, q_yes, q_andV, q_andV1, q_andV2, q_orV, q_orV1, q_orV2, q_notV, q_notV1, q_ifE, q_ifE1, q_ifE2, q_nil, q_cons, q_cons1, q_cons2, q_tup, q_tup1, q_lst, q_lst1, q_cb, q_cb1, q_lenV, q_lenV1, q_seq, q_seq1, q_sl, q_st, q_so, q_sb, q_sf, q_mu, q_mu1, q_mu2, q_muS, q_muS1, q_muS2, q_app, q_app1, q_app2, q_pop, q_pop1, q_rev, q_rev1, q_isi, q_isi1, q_inV, q_inV1, q_ixV, q_ixV1, q_ixV2, q_ixV3, q_ixL, q_ixT, q_kV, q_fI, q_addI, q_eqI, q_eqS, q_eqB, q_int, q_tupL, q_tupT, q_listL, q_listT, q_len1, q_len2, q_neg, q_neg1, q_call, q_call2, q_call3, q_call4, q_cnil, q_ccons, q_ccons1, q_ccons2, q_cb', q_cb'1, q_ar0, q_ar1, q_ar2, q_ar3, q_ar4, q_ar5, q_put0, q_put1, q_put2, q_put3, q_put4, q_put5, q_bix0, q_bix1, q_bix2, q_sq, q_sq1, q_sq2, q_sq3, q_sq4, q_snil, q_ret, q_ret1, q_expr, q_expr1, q_ifS, q_ifS1, q_ifS2, q_set, q_set1, q_asg, q_asg1, q_gname, q_gnil, q_gcons, q_gcons1, q_par, q_par1, q_aug, q_aug1, q_aug2, q_rng, q_iseq, q_iseq1, q_sd1, q_sd2, q_kP2, q_fro, q_fro1, q_for, q_for1, q_k0, q_k1, q_w0, q_w1, q_lc, q_lc2, q_n1, q_n0, q_run, bO_b, bO_v, bO_n, finB0, finB1, q_at0, q_at1, q_at2, q_at3, q_bs, q_bn, q_ms, q_mn, q_g0, q_gs, q_s0, q_ss, List.head?_cons, List.tail_cons, List.map_cons, List.map_nil, List.length_cons, List.length_nil, List.cons_append, List.nil_append, List.replicate_succ, List.replicate_zero, Nat.reduceSub, Nat.reduceAdd, Bool.false_xor, Bool.true_xor, Bool.not_true, Bool.not_false, beq_self_eq_true, isBool, isInt, isStr, isTuple, q_callI, if_true, ite_true, List.nodup_nil, List.nodup_cons, List.not_mem_nil, not_false_eq_true, and_true, true_and, and_self, q_fg0, q_fg1, q_fg2, q_fg3, q_fg4, q_fg5, q_fg6, q_lg0, q_lg1, q_lg2, q_lg3, q_lg4, q_lg5, q_sub, q_sub1, q_sub2, q_sub3, q_sub4, q_sub5, q_rng2, q_rng2a, q_aS, q_aS1, q_aS2, q_aS3, q_aS4, q_aS5, q_aS5', q_aS7, take_16, h1, c1, tail, c3, c4, h2, h3]
        | false =>
          cases c5 : (((tn dr 16 : Nat) : Int) == 10) with
          | true =>
            refine ⟨.tuple [.str "item", .tuple [.str "know", .int ((tn dr1 3 : Nat) : Int)], d1], dr1.tail, ?_⟩
            simp only [q_var, q_var1, q_var2, q_mv, q_mv1, q_mv2, q_c, q_pr, q_bin, q_bin1, q_bin2, q_dv, q_do, q_tst, q_tst1, q_isN, q_isN0, q_isN1, q_isN2, q_isN3, q_isN4, q_isN5, q_and, q_and1, q_and2, q_or, q_or1, q_or2, q_not, q_not1, q_yes, q_andV, q_andV1, q_andV2, q_orV, q_orV1, q_orV2, q_notV, q_notV1, q_ifE, q_ifE1, q_ifE2, q_nil, q_cons, q_cons1, q_cons2, q_tup, q_tup1, q_lst, q_lst1, q_cb, q_cb1, q_lenV, q_lenV1, q_seq, q_seq1, q_sl, q_st, q_so, q_sb, q_sf, q_mu, q_mu1, q_mu2, q_muS, q_muS1, q_muS2, q_app, q_app1, q_app2, q_pop, q_pop1, q_rev, q_rev1, q_isi, q_isi1, q_inV, q_inV1, q_ixV, q_ixV1, q_ixV2, q_ixV3, q_ixL, q_ixT, q_kV, q_fI, q_addI, q_eqI, q_eqS, q_eqB, q_int, q_tupL, q_tupT, q_listL, q_listT, q_len1, q_len2, q_neg, q_neg1, q_call, q_call2, q_call3, q_call4, q_cnil, q_ccons, q_ccons1, q_ccons2, q_cb', q_cb'1, q_ar0, q_ar1, q_ar2, q_ar3, q_ar4, q_ar5, q_put0, q_put1, q_put2, q_put3, q_put4, q_put5, q_bix0, q_bix1, q_bix2, q_sq, q_sq1, q_sq2, q_sq3, q_sq4, q_snil, q_ret, q_ret1, q_expr, q_expr1, q_ifS, q_ifS1, q_ifS2, q_set, q_set1, q_asg, q_asg1, q_gname, q_gnil, q_gcons, q_gcons1, q_par, q_par1, q_aug, q_aug1, q_aug2, q_rng, q_iseq, q_iseq1, q_sd1, q_sd2, q_kP2, q_fro, q_fro1, q_for, q_for1, q_k0, q_k1, q_w0, q_w1, q_lc, q_lc2, q_n1, q_n0, q_run, bO_b, bO_v, bO_n, finB0, finB1, q_at0, q_at1, q_at2, q_at3, q_bs, q_bn, q_ms, q_mn, q_g0, q_gs, q_s0, q_ss, List.head?_cons, List.tail_cons, List.map_cons, List.map_nil, List.length_cons, List.length_nil, List.cons_append, List.nil_append, List.replicate_succ, List.replicate_zero, Nat.reduceSub, Nat.reduceAdd, Bool.false_xor, Bool.true_xor, Bool.not_true, Bool.not_false, beq_self_eq_true, isBool, isInt, isStr, isTuple, q_callI, if_true, ite_true, List.nodup_nil, List.nodup_cons, List.not_mem_nil, not_false_eq_true, and_true, true_and, and_self, q_fg0, q_fg1, q_fg2, q_fg3, q_fg4, q_fg5, q_fg6, q_lg0, q_lg1, q_lg2, q_lg3, q_lg4, q_lg5, q_sub, q_sub1, q_sub2, q_sub3, q_sub4, q_sub5, q_rng2, q_rng2a, q_aS, q_aS1, q_aS2, q_aS3, q_aS4, q_aS5, q_aS5', q_aS7, take_16, h1, c1, tail, c3, c4, c5, take_3]
          | false =>
            obtain ⟨d, hd⟩ := at_ex (ds := [.str "same", .str "less", .str "plus", .str "minus", .str "place", .str "item"]) (k := tn dr1 6) (tn_lt dr1 (n := 6) (by omega))
            obtain ⟨d2, dr2, h2⟩ := simple_eq dr1.tail falls c
            refine ⟨.tuple [d, d1, d2], dr2, ?_⟩
            simp only [q_var, q_var1, q_var2, q_mv, q_mv1, q_mv2, q_c, q_pr, q_bin, q_bin1, q_bin2, q_dv, q_do, q_tst, q_tst1, q_isN, q_isN0, q_isN1, q_isN2, q_isN3, q_isN4, q_isN5, q_and, q_and1, q_and2, q_or, q_or1, q_or2, q_not, q_not1, q_yes, q_andV, q_andV1, q_andV2, q_orV, q_orV1, q_orV2, q_notV, q_notV1, q_ifE, q_ifE1, q_ifE2, q_nil, q_cons, q_cons1, q_cons2, q_tup, q_tup1, q_lst, q_lst1, q_cb, q_cb1, q_lenV, q_lenV1, q_seq, q_seq1, q_sl, q_st, q_so, q_sb, q_sf, q_mu, q_mu1, q_mu2, q_muS, q_muS1, q_muS2, q_app, q_app1, q_app2, q_pop, q_pop1, q_rev, q_rev1, q_isi, q_isi1, q_inV, q_inV1, q_ixV, q_ixV1, q_ixV2, q_ixV3, q_ixL, q_ixT, q_kV, q_fI, q_addI, q_eqI, q_eqS, q_eqB, q_int, q_tupL, q_tupT, q_listL, q_listT, q_len1, q_len2, q_neg, q_neg1, q_call, q_call2, q_call3, q_call4, q_cnil, q_ccons, q_ccons1, q_ccons2, q_cb', q_cb'1, q_ar0, q_ar1, q_ar2, q_ar3, q_ar4, q_ar5, q_put0, q_put1, q_put2, q_put3, q_put4, q_put5, q_bix0, q_bix1, q_bix2, q_sq, q_sq1, q_sq2, q_sq3, q_sq4, q_snil, q_ret, q_ret1, q_expr, q_expr1, q_ifS, q_ifS1, q_ifS2, q_set, q_set1, q_asg, q_asg1, q_gname, q_gnil, q_gcons, q_gcons1, q_par, q_par1, q_aug, q_aug1, q_aug2, q_rng, q_iseq, q_iseq1, q_sd1, q_sd2, q_kP2, q_fro, q_fro1, q_for, q_for1, q_k0, q_k1, q_w0, q_w1, q_lc, q_lc2, q_n1, q_n0, q_run, bO_b, bO_v, bO_n, finB0, finB1, q_at0, q_at1, q_at2, q_at3, q_bs, q_bn, q_ms, q_mn, q_g0, q_gs, q_s0, q_ss, List.head?_cons, List.tail_cons, List.map_cons, List.map_nil, List.length_cons, List.length_nil, List.cons_append, List.nil_append, List.replicate_succ, List.replicate_zero, Nat.reduceSub, Nat.reduceAdd, Bool.false_xor, Bool.true_xor, Bool.not_true, Bool.not_false, beq_self_eq_true, isBool, isInt, isStr, isTuple, q_callI, if_true, ite_true, List.nodup_nil, List.nodup_cons, List.not_mem_nil, not_false_eq_true, and_true, true_and, and_self, q_fg0, q_fg1, q_fg2, q_fg3, q_fg4, q_fg5, q_fg6, q_lg0, q_lg1, q_lg2, q_lg3, q_lg4, q_lg5, q_sub, q_sub1, q_sub2, q_sub3, q_sub4, q_sub5, q_rng2, q_rng2a, q_aS, q_aS1, q_aS2, q_aS3, q_aS4, q_aS5, q_aS5', q_aS7, take_16, h1, c1, tail, c3, c4, c5, take_6, hd, h2]
theorem build_eq (dr : List Int) (falls many : Nat) (hfm : falls < many) (c : Int) : ∃ d dr', f_Lbuild [.bor (E dr), .val (.int (falls : Int)), .val (.int (many : Int)), .val (.int c)] = some (.val d, [some (.bor (E dr')), none, none, none]) := by
  have ht := take_n dr (n := many - falls) (by omega)
  have e : ((many - falls : Nat) : Int) = (many : Int) - (falls : Int) := by omega
  rw [e] at ht
  unfold f_Lbuild b_Lbuild
  obtain ⟨d1, dr1, h1⟩ := fall_eq dr.tail.tail falls many c
  cases c1 : decide (((tn dr.tail 6 : Nat) : Int) < 2) with
  | true =>
    refine ⟨.tuple [.str "join", d1, .tuple [.str "of", .int ((falls : Int) + ((tn dr (many - falls) : Nat) : Int))]], dr1, ?_⟩
    simp only [q_var, q_var1, q_var2, q_mv, q_mv1, q_mv2, q_c, q_pr, q_bin, q_bin1, q_bin2, q_dv, q_do, q_tst, q_tst1, q_isN, q_isN0, q_isN1, q_isN2, q_isN3, q_isN4, q_isN5, q_and, q_and1, q_and2, q_or, q_or1, q_or2, q_not, q_not1, q_yes, q_andV, q_andV1, q_andV2, q_orV, q_orV1, q_orV2, q_notV, q_notV1, q_ifE, q_ifE1, q_ifE2, q_nil, q_cons, q_cons1, q_cons2, q_tup, q_tup1, q_lst, q_lst1, q_cb, q_cb1, q_lenV, q_lenV1, q_seq, q_seq1, q_sl, q_st, q_so, q_sb, q_sf, q_mu, q_mu1, q_mu2, q_muS, q_muS1, q_muS2, q_app, q_app1, q_app2, q_pop, q_pop1, q_rev, q_rev1, q_isi, q_isi1, q_inV, q_inV1, q_ixV, q_ixV1, q_ixV2, q_ixV3, q_ixL, q_ixT, q_kV, q_fI, q_addI, q_eqI, q_eqS, q_eqB, q_int, q_tupL, q_tupT, q_listL, q_listT, q_len1, q_len2, q_neg, q_neg1, q_call, q_call2, q_call3, q_call4, q_cnil, q_ccons, q_ccons1, q_ccons2, q_cb', q_cb'1, q_ar0, q_ar1, q_ar2, q_ar3, q_ar4, q_ar5, q_put0, q_put1, q_put2, q_put3, q_put4, q_put5, q_bix0, q_bix1, q_bix2, q_sq, q_sq1, q_sq2, q_sq3, q_sq4, q_snil, q_ret, q_ret1, q_expr, q_expr1, q_ifS, q_ifS1, q_ifS2, q_set, q_set1, q_asg, q_asg1, q_gname, q_gnil, q_gcons, q_gcons1, q_par, q_par1, q_aug, q_aug1, q_aug2, q_rng, q_iseq, q_iseq1, q_sd1, q_sd2, q_kP2, q_fro, q_fro1, q_for, q_for1, q_k0, q_k1, q_w0, q_w1, q_lc, q_lc2, q_n1, q_n0, q_run, bO_b, bO_v, bO_n, finB0, finB1, q_at0, q_at1, q_at2, q_at3, q_bs, q_bn, q_ms, q_mn, q_g0, q_gs, q_s0, q_ss, List.head?_cons, List.tail_cons, List.map_cons, List.map_nil, List.length_cons, List.length_nil, List.cons_append, List.nil_append, List.replicate_succ, List.replicate_zero, Nat.reduceSub, Nat.reduceAdd, Bool.false_xor, Bool.true_xor, Bool.not_true, Bool.not_false, beq_self_eq_true, isBool, isInt, isStr, isTuple, q_callI, if_true, ite_true, List.nodup_nil, List.nodup_cons, List.not_mem_nil, not_false_eq_true, and_true, true_and, and_self, q_fg0, q_fg1, q_fg2, q_fg3, q_fg4, q_fg5, q_fg6, q_lg0, q_lg1, q_lg2, q_lg3, q_lg4, q_lg5, q_sub, q_sub1, q_sub2, q_sub3, q_sub4, q_sub5, q_rng2, q_rng2a, q_aS, q_aS1, q_aS2, q_aS3, q_aS4, q_aS5, q_aS5', q_aS7, ht, take_6, c1, h1]
  | false =>
    cases c2 : (((tn dr.tail 6 : Nat) : Int) == 2) with
    | true =>
      refine ⟨.tuple [.str "more", d1, .tuple [.str "of", .int ((falls : Int) + ((tn dr (many - falls) : Nat) : Int))]], dr1, ?_⟩
      simp only [q_var, q_var1, q_var2, q_mv, q_mv1, q_mv2, q_c, q_pr, q_bin, q_bin1, q_bin2, q_dv, q_do, q_tst, q_tst1, q_isN, q_isN0, q_isN1, q_isN2, q_isN3, q_isN4, q_isN5, q_and, q_and1, q_and2, q_or, q_or1, q_or2, q_not, q_not1, q_yes, q_andV, q_andV1, q_andV2, q_orV, q_orV1, q_orV2, q_notV, q_notV1, q_ifE, q_ifE1, q_ifE2, q_nil, q_cons, q_cons1, q_cons2, q_tup, q_tup1, q_lst, q_lst1, q_cb, q_cb1, q_lenV, q_lenV1, q_seq, q_seq1, q_sl, q_st, q_so, q_sb, q_sf, q_mu, q_mu1, q_mu2, q_muS, q_muS1, q_muS2, q_app, q_app1, q_app2, q_pop, q_pop1, q_rev, q_rev1, q_isi, q_isi1, q_inV, q_inV1, q_ixV, q_ixV1, q_ixV2, q_ixV3, q_ixL, q_ixT, q_kV, q_fI, q_addI, q_eqI, q_eqS, q_eqB, q_int, q_tupL, q_tupT, q_listL, q_listT, q_len1, q_len2, q_neg, q_neg1, q_call, q_call2, q_call3, q_call4, q_cnil, q_ccons, q_ccons1, q_ccons2, q_cb', q_cb'1, q_ar0, q_ar1, q_ar2, q_ar3, q_ar4, q_ar5, q_put0, q_put1, q_put2, q_put3, q_put4, q_put5, q_bix0, q_bix1, q_bix2, q_sq, q_sq1, q_sq2, q_sq3, q_sq4, q_snil, q_ret, q_ret1, q_expr, q_expr1, q_ifS, q_ifS1, q_ifS2, q_set, q_set1, q_asg, q_asg1, q_gname, q_gnil, q_gcons, q_gcons1, q_par, q_par1, q_aug, q_aug1, q_aug2, q_rng, q_iseq, q_iseq1, q_sd1, q_sd2, q_kP2, q_fro, q_fro1, q_for, q_for1, q_k0, q_k1, q_w0, q_w1, q_lc, q_lc2, q_n1, q_n0, q_run, bO_b, bO_v, bO_n, finB0, finB1, q_at0, q_at1, q_at2, q_at3, q_bs, q_bn, q_ms, q_mn, q_g0, q_gs, q_s0, q_ss, List.head?_cons, List.tail_cons, List.map_cons, List.map_nil, List.length_cons, List.length_nil, List.cons_append, List.nil_append, List.replicate_succ, List.replicate_zero, Nat.reduceSub, Nat.reduceAdd, Bool.false_xor, Bool.true_xor, Bool.not_true, Bool.not_false, beq_self_eq_true, isBool, isInt, isStr, isTuple, q_callI, if_true, ite_true, List.nodup_nil, List.nodup_cons, List.not_mem_nil, not_false_eq_true, and_true, true_and, and_self, q_fg0, q_fg1, q_fg2, q_fg3, q_fg4, q_fg5, q_fg6, q_lg0, q_lg1, q_lg2, q_lg3, q_lg4, q_lg5, q_sub, q_sub1, q_sub2, q_sub3, q_sub4, q_sub5, q_rng2, q_rng2a, q_aS, q_aS1, q_aS2, q_aS3, q_aS4, q_aS5, q_aS5', q_aS7, ht, take_6, c1, c2, h1]
    | false =>
      cases c3 : (((tn dr.tail 6 : Nat) : Int) == 3) with
      | true =>
        refine ⟨.tuple [.str "rest", .tuple [.str "of", .int ((falls : Int) + ((tn dr (many - falls) : Nat) : Int))]], dr.tail.tail, ?_⟩
        simp only [q_var, q_var1, q_var2, q_mv, q_mv1, q_mv2, q_c, q_pr, q_bin, q_bin1, q_bin2, q_dv, q_do, q_tst, q_tst1, q_isN, q_isN0, q_isN1, q_isN2, q_isN3, q_isN4, q_isN5, q_and, q_and1, q_and2, q_or, q_or1, q_or2, q_not, q_not1, q_yes, q_andV, q_andV1, q_andV2, q_orV, q_orV1, q_orV2, q_notV, q_notV1, q_ifE, q_ifE1, q_ifE2, q_nil, q_cons, q_cons1, q_cons2, q_tup, q_tup1, q_lst, q_lst1, q_cb, q_cb1, q_lenV, q_lenV1, q_seq, q_seq1, q_sl, q_st, q_so, q_sb, q_sf, q_mu, q_mu1, q_mu2, q_muS, q_muS1, q_muS2, q_app, q_app1, q_app2, q_pop, q_pop1, q_rev, q_rev1, q_isi, q_isi1, q_inV, q_inV1, q_ixV, q_ixV1, q_ixV2, q_ixV3, q_ixL, q_ixT, q_kV, q_fI, q_addI, q_eqI, q_eqS, q_eqB, q_int, q_tupL, q_tupT, q_listL, q_listT, q_len1, q_len2, q_neg, q_neg1, q_call, q_call2, q_call3, q_call4, q_cnil, q_ccons, q_ccons1, q_ccons2, q_cb', q_cb'1, q_ar0, q_ar1, q_ar2, q_ar3, q_ar4, q_ar5, q_put0, q_put1, q_put2, q_put3, q_put4, q_put5, q_bix0, q_bix1, q_bix2, q_sq, q_sq1, q_sq2, q_sq3, q_sq4, q_snil, q_ret, q_ret1, q_expr, q_expr1, q_ifS, q_ifS1, q_ifS2, q_set, q_set1, q_asg, q_asg1, q_gname, q_gnil, q_gcons, q_gcons1, q_par, q_par1, q_aug, q_aug1, q_aug2, q_rng, q_iseq, q_iseq1, q_sd1, q_sd2, q_kP2, q_fro, q_fro1, q_for, q_for1, q_k0, q_k1, q_w0, q_w1, q_lc, q_lc2, q_n1, q_n0, q_run, bO_b, bO_v, bO_n, finB0, finB1, q_at0, q_at1, q_at2, q_at3, q_bs, q_bn, q_ms, q_mn, q_g0, q_gs, q_s0, q_ss, List.head?_cons, List.tail_cons, List.map_cons, List.map_nil, List.length_cons, List.length_nil, List.cons_append, List.nil_append, List.replicate_succ, List.replicate_zero, Nat.reduceSub, Nat.reduceAdd, Bool.false_xor, Bool.true_xor, Bool.not_true, Bool.not_false, beq_self_eq_true, isBool, isInt, isStr, isTuple, q_callI, if_true, ite_true, List.nodup_nil, List.nodup_cons, List.not_mem_nil, not_false_eq_true, and_true, true_and, and_self, q_fg0, q_fg1, q_fg2, q_fg3, q_fg4, q_fg5, q_fg6, q_lg0, q_lg1, q_lg2, q_lg3, q_lg4, q_lg5, q_sub, q_sub1, q_sub2, q_sub3, q_sub4, q_sub5, q_rng2, q_rng2a, q_aS, q_aS1, q_aS2, q_aS3, q_aS4, q_aS5, q_aS5', q_aS7, ht, take_6, c1, c2, c3]
      | false =>
        cases c4 : (((tn dr.tail 6 : Nat) : Int) == 4) with
        | true =>
          obtain ⟨d2, dr2, h2⟩ := fall_eq dr.tail.tail.tail falls many c
          refine ⟨.tuple [.str "put", .tuple [.str "know", .int ((tn dr.tail.tail 3 : Nat) : Int)], .tuple [.str "of", .int ((falls : Int) + ((tn dr (many - falls) : Nat) : Int))], d2], dr2, ?_⟩
          simp only [q_var, q_var1, q_var2, q_mv, q_mv1, q_mv2, q_c, q_pr, q_bin, q_bin1, q_bin2, q_dv, q_do, q_tst, q_tst1, q_isN, q_isN0, q_isN1, q_isN2, q_isN3, q_isN4, q_isN5, q_and, q_and1, q_and2, q_or, q_or1, q_or2, q_not, q_not1, q_yes, q_andV, q_andV1, q_andV2, q_orV, q_orV1, q_orV2, q_notV, q_notV1, q_ifE, q_ifE1, q_ifE2, q_nil, q_cons, q_cons1, q_cons2, q_tup, q_tup1, q_lst, q_lst1, q_cb, q_cb1, q_lenV, q_lenV1, q_seq, q_seq1, q_sl, q_st, q_so, q_sb, q_sf, q_mu, q_mu1, q_mu2, q_muS, q_muS1, q_muS2, q_app, q_app1, q_app2, q_pop, q_pop1, q_rev, q_rev1, q_isi, q_isi1, q_inV, q_inV1, q_ixV, q_ixV1, q_ixV2, q_ixV3, q_ixL, q_ixT, q_kV, q_fI, q_addI, q_eqI, q_eqS, q_eqB, q_int, q_tupL, q_tupT, q_listL, q_listT, q_len1, q_len2, q_neg, q_neg1, q_call, q_call2, q_call3, q_call4, q_cnil, q_ccons, q_ccons1, q_ccons2, q_cb', q_cb'1, q_ar0, q_ar1, q_ar2, q_ar3, q_ar4, q_ar5, q_put0, q_put1, q_put2, q_put3, q_put4, q_put5, q_bix0, q_bix1, q_bix2, q_sq, q_sq1, q_sq2, q_sq3, q_sq4, q_snil, q_ret, q_ret1, q_expr, q_expr1, q_ifS, q_ifS1, q_ifS2, q_set, q_set1, q_asg, q_asg1, q_gname, q_gnil, q_gcons, q_gcons1, q_par, q_par1, q_aug, q_aug1, q_aug2, q_rng, q_iseq, q_iseq1, q_sd1, q_sd2, q_kP2, q_fro, q_fro1, q_for, q_for1, q_k0, q_k1, q_w0, q_w1, q_lc, q_lc2, q_n1, q_n0, q_run, bO_b, bO_v, bO_n, finB0, finB1, q_at0, q_at1, q_at2, q_at3, q_bs, q_bn, q_ms, q_mn, q_g0, q_gs, q_s0, q_ss, List.head?_cons, List.tail_cons, List.map_cons, List.map_nil, List.length_cons, List.length_nil, List.cons_append, List.nil_append, List.replicate_succ, List.replicate_zero, Nat.reduceSub, Nat.reduceAdd, Bool.false_xor, Bool.true_xor, Bool.not_true, Bool.not_false, beq_self_eq_true, isBool, isInt, isStr, isTuple, q_callI, if_true, ite_true, List.nodup_nil, List.nodup_cons, List.not_mem_nil, not_false_eq_true, and_true, true_and, and_self, q_fg0, q_fg1, q_fg2, q_fg3, q_fg4, q_fg5, q_fg6, q_lg0, q_lg1, q_lg2, q_lg3, q_lg4, q_lg5, q_sub, q_sub1, q_sub2, q_sub3, q_sub4, q_sub5, q_rng2, q_rng2a, q_aS, q_aS1, q_aS2, q_aS3, q_aS4, q_aS5, q_aS5', q_aS7, ht, take_6, c1, c2, c3, c4, take_3, h2]
        | false =>
          refine ⟨.tuple [.str "of", .int ((falls : Int) + ((tn dr (many - falls) : Nat) : Int))], dr.tail.tail, ?_⟩
          simp only [q_var, q_var1, q_var2, q_mv, q_mv1, q_mv2, q_c, q_pr, q_bin, q_bin1, q_bin2, q_dv, q_do, q_tst, q_tst1, q_isN, q_isN0, q_isN1, q_isN2, q_isN3, q_isN4, q_isN5, q_and, q_and1, q_and2, q_or, q_or1, q_or2, q_not, q_not1, q_yes, q_andV, q_andV1, q_andV2, q_orV, q_orV1, q_orV2, q_notV, q_notV1, q_ifE, q_ifE1, q_ifE2, q_nil, q_cons, q_cons1, q_cons2, q_tup, q_tup1, q_lst, q_lst1, q_cb, q_cb1, q_lenV, q_lenV1, q_seq, q_seq1, q_sl, q_st, q_so, q_sb, q_sf, q_mu, q_mu1, q_mu2, q_muS, q_muS1, q_muS2, q_app, q_app1, q_app2, q_pop, q_pop1, q_rev, q_rev1, q_isi, q_isi1, q_inV, q_inV1, q_ixV, q_ixV1, q_ixV2, q_ixV3, q_ixL, q_ixT, q_kV, q_fI, q_addI, q_eqI, q_eqS, q_eqB, q_int, q_tupL, q_tupT, q_listL, q_listT, q_len1, q_len2, q_neg, q_neg1, q_call, q_call2, q_call3, q_call4, q_cnil, q_ccons, q_ccons1, q_ccons2, q_cb', q_cb'1, q_ar0, q_ar1, q_ar2, q_ar3, q_ar4, q_ar5, q_put0, q_put1, q_put2, q_put3, q_put4, q_put5, q_bix0, q_bix1, q_bix2, q_sq, q_sq1, q_sq2, q_sq3, q_sq4, q_snil, q_ret, q_ret1, q_expr, q_expr1, q_ifS, q_ifS1, q_ifS2, q_set, q_set1, q_asg, q_asg1, q_gname, q_gnil, q_gcons, q_gcons1, q_par, q_par1, q_aug, q_aug1, q_aug2, q_rng, q_iseq, q_iseq1, q_sd1, q_sd2, q_kP2, q_fro, q_fro1, q_for, q_for1, q_k0, q_k1, q_w0, q_w1, q_lc, q_lc2, q_n1, q_n0, q_run, bO_b, bO_v, bO_n, finB0, finB1, q_at0, q_at1, q_at2, q_at3, q_bs, q_bn, q_ms, q_mn, q_g0, q_gs, q_s0, q_ss, List.head?_cons, List.tail_cons, List.map_cons, List.map_nil, List.length_cons, List.length_nil, List.cons_append, List.nil_append, List.replicate_succ, List.replicate_zero, Nat.reduceSub, Nat.reduceAdd, Bool.false_xor, Bool.true_xor, Bool.not_true, Bool.not_false, beq_self_eq_true, isBool, isInt, isStr, isTuple, q_callI, if_true, ite_true, List.nodup_nil, List.nodup_cons, List.not_mem_nil, not_false_eq_true, and_true, true_and, and_self, q_fg0, q_fg1, q_fg2, q_fg3, q_fg4, q_fg5, q_fg6, q_lg0, q_lg1, q_lg2, q_lg3, q_lg4, q_lg5, q_sub, q_sub1, q_sub2, q_sub3, q_sub4, q_sub5, q_rng2, q_rng2a, q_aS, q_aS1, q_aS2, q_aS3, q_aS4, q_aS5, q_aS5', q_aS7, ht, take_6, c1, c2, c3, c4]
end K50

set_option Elab.async false
set_option linter.all false
set_option maxRecDepth 100000
set_option maxHeartbeats 4000000
namespace K50
open PySem L2 DL
/-! ### _law_program -/
theorem prog_w1 (dr : List Int) (falls many : Nat) (hm : 0 < many) (c : Int) (x y z : Option S) (as : List D) (ha : as.length ≤ 1000) (a : Int) :
    ∃ dr' d ρ1 ρ2, rgName 8 (.int a) [some (.bor (E dr)), some (.val (.int (falls : Int))), some (.val (.int (many : Int))), x, some (.val (.int c)), y, z, some (.own as), none, none, none, none] = some ρ1 ∧ w_Lprogram_1 ρ1 = some (.nx ρ2) ∧
      killE [8, 9] ρ2 = [some (.bor (E dr')), some (.val (.int (falls : Int))), some (.val (.int (many : Int))), x, some (.val (.int c)), y, z, some (.own (as ++ [d])), none, none, none, none] := by
  have hz : as.length < sizeLine := sz_lt (by omega)
  have ht := take_n dr hm
  have hlt := tn_lt dr hm
  cases h : decide (((tn dr many : Nat) : Int) < (falls : Int)) with
  | true =>
    obtain ⟨d, dr', h1⟩ := fall_eq dr.tail falls many c
    refine ⟨dr', .tuple [.int ((tn dr many : Nat) : Int), d], _, [some (.bor (E dr')), some (.val (.int (falls : Int))), some (.val (.int (many : Int))), x, some (.val (.int c)), y, z, some (.own (as ++ [.tuple [.int ((tn dr many : Nat) : Int), d]])), some (.val (.int a)), some (.val (.int ((tn dr many : Nat) : Int))), none, none], rfl, ?_, rfl⟩
    unfold w_Lprogram_1
    simp only [q_var, q_var1, q_var2, q_mv, q_mv1, q_mv2, q_c, q_pr, q_bin, q_bin1, q_bin2, q_dv, q_do, q_tst, q_tst1, q_isN, q_isN0, q_isN1, q_isN2, q_isN3, q_isN4, q_isN5, q_and, q_and1, q_and2, q_or, q_or1, q_or2, q_not, q_not1, q_yes, q_andV, q_andV1, q_andV2, q_orV, q_orV1, q_orV2, q_notV, q_notV1, q_ifE, q_ifE1, q_ifE2, q_nil, q_cons, q_cons1, q_cons2, q_tup, q_tup1, q_lst, q_lst1, q_cb, q_cb1, q_lenV, q_lenV1, q_seq, q_seq1, q_sl, q_st, q_so, q_sb, q_sf, q_mu, q_mu1, q_mu2, q_muS, q_muS1, q_muS2, q_app, q_app1, q_app2, q_pop, q_pop1, q_rev, q_rev1, q_isi, q_isi1, q_inV, q_inV1, q_ixV, q_ixV1, q_ixV2, q_ixV3, q_ixL, q_ixT, q_kV, q_fI, q_addI, q_eqI, q_eqS, q_eqB, q_int, q_tupL, q_tupT, q_listL, q_listT, q_len1, q_len2, q_neg, q_neg1, q_call, q_call2, q_call3, q_call4, q_cnil, q_ccons, q_ccons1, q_ccons2, q_cb', q_cb'1, q_ar0, q_ar1, q_ar2, q_ar3, q_ar4, q_ar5, q_put0, q_put1, q_put2, q_put3, q_put4, q_put5, q_bix0, q_bix1, q_bix2, q_sq, q_sq1, q_sq2, q_sq3, q_sq4, q_snil, q_ret, q_ret1, q_expr, q_expr1, q_ifS, q_ifS1, q_ifS2, q_set, q_set1, q_asg, q_asg1, q_gname, q_gnil, q_gcons, q_gcons1, q_par, q_par1, q_aug, q_aug1, q_aug2, q_rng, q_iseq, q_iseq1, q_sd1, q_sd2, q_kP2, q_fro, q_fro1, q_for, q_for1, q_k0, q_k1, q_w0, q_w1, q_lc, q_lc2, q_n1, q_n0, q_run, bO_b, bO_v, bO_n, finB0, finB1, q_at0, q_at1, q_at2, q_at3, q_bs, q_bn, q_ms, q_mn, q_g0, q_gs, q_s0, q_ss, List.head?_cons, List.tail_cons, List.map_cons, List.map_nil, List.length_cons, List.length_nil, List.cons_append, List.nil_append, List.replicate_succ, List.replicate_zero, Nat.reduceSub, Nat.reduceAdd, Bool.false_xor, Bool.true_xor, Bool.not_true, Bool.not_false, beq_self_eq_true, isBool, isInt, isStr, isTuple, q_callI, if_true, ite_true, List.nodup_nil, List.nodup_cons, List.not_mem_nil, not_false_eq_true, and_true, true_and, and_self, q_fg0, q_fg1, q_fg2, q_fg3, q_fg4, q_fg5, q_fg6, q_lg0, q_lg1, q_lg2, q_lg3, q_lg4, q_lg5, q_sub, q_sub1, q_sub2, q_sub3, q_sub4, q_sub5, q_rng2, q_rng2a, q_aS, q_aS1, q_aS2, q_aS3, q_aS4, q_aS5, q_aS5', q_aS7, ht, h, h1, q_app3 hz]
  | false =>
    have hn := of_decide_eq_false h
    obtain ⟨d, dr', h1⟩ := build_eq dr.tail falls many (by omega) c
    refine ⟨dr', .tuple [.int ((tn dr many : Nat) : Int), d], _, [some (.bor (E dr')), some (.val (.int (falls : Int))), some (.val (.int (many : Int))), x, some (.val (.int c)), y, z, some (.own (as ++ [.tuple [.int ((tn dr many : Nat) : Int), d]])), some (.val (.int a)), some (.val (.int ((tn dr many : Nat) : Int))), none, none], rfl, ?_, rfl⟩
    unfold w_Lprogram_1
    simp only [q_var, q_var1, q_var2, q_mv, q_mv1, q_mv2, q_c, q_pr, q_bin, q_bin1, q_bin2, q_dv, q_do, q_tst, q_tst1, q_isN, q_isN0, q_isN1, q_isN2, q_isN3, q_isN4, q_isN5, q_and, q_and1, q_and2, q_or, q_or1, q_or2, q_not, q_not1, q_yes, q_andV, q_andV1, q_andV2, q_orV, q_orV1, q_orV2, q_notV, q_notV1, q_ifE, q_ifE1, q_ifE2, q_nil, q_cons, q_cons1, q_cons2, q_tup, q_tup1, q_lst, q_lst1, q_cb, q_cb1, q_lenV, q_lenV1, q_seq, q_seq1, q_sl, q_st, q_so, q_sb, q_sf, q_mu, q_mu1, q_mu2, q_muS, q_muS1, q_muS2, q_app, q_app1, q_app2, q_pop, q_pop1, q_rev, q_rev1, q_isi, q_isi1, q_inV, q_inV1, q_ixV, q_ixV1, q_ixV2, q_ixV3, q_ixL, q_ixT, q_kV, q_fI, q_addI, q_eqI, q_eqS, q_eqB, q_int, q_tupL, q_tupT, q_listL, q_listT, q_len1, q_len2, q_neg, q_neg1, q_call, q_call2, q_call3, q_call4, q_cnil, q_ccons, q_ccons1, q_ccons2, q_cb', q_cb'1, q_ar0, q_ar1, q_ar2, q_ar3, q_ar4, q_ar5, q_put0, q_put1, q_put2, q_put3, q_put4, q_put5, q_bix0, q_bix1, q_bix2, q_sq, q_sq1, q_sq2, q_sq3, q_sq4, q_snil, q_ret, q_ret1, q_expr, q_expr1, q_ifS, q_ifS1, q_ifS2, q_set, q_set1, q_asg, q_asg1, q_gname, q_gnil, q_gcons, q_gcons1, q_par, q_par1, q_aug, q_aug1, q_aug2, q_rng, q_iseq, q_iseq1, q_sd1, q_sd2, q_kP2, q_fro, q_fro1, q_for, q_for1, q_k0, q_k1, q_w0, q_w1, q_lc, q_lc2, q_n1, q_n0, q_run, bO_b, bO_v, bO_n, finB0, finB1, q_at0, q_at1, q_at2, q_at3, q_bs, q_bn, q_ms, q_mn, q_g0, q_gs, q_s0, q_ss, List.head?_cons, List.tail_cons, List.map_cons, List.map_nil, List.length_cons, List.length_nil, List.cons_append, List.nil_append, List.replicate_succ, List.replicate_zero, Nat.reduceSub, Nat.reduceAdd, Bool.false_xor, Bool.true_xor, Bool.not_true, Bool.not_false, beq_self_eq_true, isBool, isInt, isStr, isTuple, q_callI, if_true, ite_true, List.nodup_nil, List.nodup_cons, List.not_mem_nil, not_false_eq_true, and_true, true_and, and_self, q_fg0, q_fg1, q_fg2, q_fg3, q_fg4, q_fg5, q_fg6, q_lg0, q_lg1, q_lg2, q_lg3, q_lg4, q_lg5, q_sub, q_sub1, q_sub2, q_sub3, q_sub4, q_sub5, q_rng2, q_rng2a, q_aS, q_aS1, q_aS2, q_aS3, q_aS4, q_aS5, q_aS5', q_aS7, ht, h, h1, q_app3 hz]
theorem prog_w1s (dr : List Int) (falls many : Nat) (hm : 0 < many) (c : Int) (x y z : Option S) (m : Nat) (hm4 : m < 4) :
    ∃ dr' as, forGo (rgName 8) w_Lprogram_1 [8, 9] (rng 0 m) [some (.bor (E dr)), some (.val (.int (falls : Int))), some (.val (.int (many : Int))), x, some (.val (.int c)), y, z, some (.own []), none, none, none, none] =
      some (.nx [some (.bor (E dr')), some (.val (.int (falls : Int))), some (.val (.int (many : Int))), x, some (.val (.int c)), y, z, some (.own as), none, none, none, none]) := by
  obtain ⟨ρ', H1, dr', as, hl, hρ⟩ := for_inv (g := rgName 8) (b := w_Lprogram_1) (ks := [8, 9]) (ds := rng 0 m) (ρ := [some (.bor (E dr)), some (.val (.int (falls : Int))), some (.val (.int (many : Int))), x, some (.val (.int c)), y, z, some (.own []), none, none, none, none])
    (fun i ρ => ∃ dr' as, as.length = i ∧ ρ = [some (.bor (E dr')), some (.val (.int (falls : Int))), some (.val (.int (many : Int))), x, some (.val (.int c)), y, z, some (.own as), none, none, none, none]) 0 ⟨dr, [], rfl, rfl⟩ fun i d ρ hd h => by
      obtain ⟨dr1, as, hl, rfl⟩ := h
      obtain ⟨hi, rfl⟩ := rng_get hd
      obtain ⟨dr2, d, ρ1, ρ2, h1, h2, h3⟩ := prog_w1 dr1 falls many hm c x y z as (by omega) (0 + (i : Int))
      exact ⟨ρ1, ρ2, h1, h2, dr2, as ++ [d], by rw [List.length_append, hl]; rfl, h3⟩
  exact ⟨dr', as, by rw [H1, hρ]⟩
def envP (dr : List Int) (falls many size : Nat) (c : Int) (bs : List (D × Jp)) : En := [some (.bor (E dr)), some (.val (.int (falls : Int))), some (.val (.int (many : Int))), some (.val (.int (size : Int))), some (.val (.int c)), some (.own (bs.map encB)), none, none, none, none, none, none]
theorem encB_app (bs : List (D × Jp)) (x : D × Jp) : (bs ++ [x]).map encB = bs.map encB ++ [.tuple [x.1, x.2.enc]] := by
  rw [List.map_append]
  rfl
theorem prog_w2 (dr : List Int) (falls many size : Nat) (hm : 0 < many) (hs : 0 < size) (c : Int) (bs : List (D × Jp)) (hb : bs.length ≤ 1000) (a : Int) :
    ∃ dr' x ρ1 ρ2, rgName 6 (.int a) (envP dr falls many size c bs) = some ρ1 ∧ w_Lprogram_2 ρ1 = some (.nx ρ2) ∧ killE [6, 7, 8, 9, 10, 11] ρ2 = envP dr' falls many size c (bs ++ [x]) ∧ ∀ w ∈ x.2.ways, w < size := by
  have hz : (bs.map encB).length < sizeLine := by rw [List.length_map]; exact sz_lt (by omega)
  have hlt := tn_lt dr (n := 4) (by omega)
  obtain ⟨dr1, as, H1⟩ := prog_w1s dr.tail falls many hm c (some (.val (.int (size : Int)))) (some (.own (bs.map encB))) (some (.val (.int a))) (tn dr 4) hlt
  have q4 := fun {ρ : En} => q_rng1 (ρ := ρ) (n62 (show tn dr 4 ≤ 1000 by omega))
  -- how the jump is made
  have J : ∃ (dr' : List Int) (j : Jp), (rsIf (rtOr (rdTst (rdBin (fEq false) (rdVar 10) (rdC (.int 0)))) (rdTst (rdBin (fEq false) (rdVar 3) (rdC (.int 1)))))
    (rsSet 11 (rdTup (raCons (rdC (.str "end")) (raCons (rdTup (raCons (rdC (.str "of")) (raCons (rdCall f_Ltake (rcB 0 (rcCons (rdVar 2) (rcNil)))) (raNil)))) (raNil)))))
    (rsIf (rdTst (rdBin (fEq false) (rdVar 10) (rdC (.int 1))))
    (rsSet 11 (rdTup (raCons (rdC (.str "goto")) (raCons (rdCall f_Ltake (rcB 0 (rcCons (rdVar 3) (rcNil)))) (raNil)))))
    (rsSet 11 (rdTup (raCons (rdC (.str "test")) (raCons (rdCall f_Lfall (rcB 0 (rcCons (rdVar 1) (rcCons (rdVar 2) (rcCons (rdVar 4) (rcNil)))))) (raCons (rdCall f_Ltake (rcB 0 (rcCons (rdVar 3) (rcNil)))) (raCons (rdCall f_Ltake (rcB 0 (rcCons (rdVar 3) (rcNil)))) (raNil))))))))) [some (.bor (E dr1.tail)), some (.val (.int (falls : Int))), some (.val (.int (many : Int))), some (.val (.int (size : Int))), some (.val (.int c)), some (.own (bs.map encB)), some (.val (.int a)), some (.own as), none, none, some (.val (.int ((tn dr1 5 : Nat) : Int))), none]
      = some (.nx [some (.bor (E dr')), some (.val (.int (falls : Int))), some (.val (.int (many : Int))), some (.val (.int (size : Int))), some (.val (.int c)), some (.own (bs.map encB)), some (.val (.int a)), some (.own as), none, none, some (.val (.int ((tn dr1 5 : Nat) : Int))), some (.val j.enc)]) ∧ ∀ w ∈ j.ways, w < size := by
    have t1 := take_n dr1.tail hm
    have t2 := take_n dr1.tail hs
    have l2 := tn_lt dr1.tail hs
    have key : ∀ (j : Jp), j.enc = j.enc := fun _ => rfl
    cases c1 : (((tn dr1 5 : Nat) : Int) == 0) with
    | true =>
      refine ⟨dr1.tail.tail, .fin (.tuple [.str "of", .int ((tn dr1.tail many : Nat) : Int)]), ?_, fun w hw => (List.not_mem_nil hw).elim⟩
      simp only [q_var, q_var1, q_var2, q_mv, q_mv1, q_mv2, q_c, q_pr, q_bin, q_bin1, q_bin2, q_dv, q_do, q_tst, q_tst1, q_isN, q_isN0, q_isN1, q_isN2, q_isN3, q_isN4, q_isN5, q_and, q_and1, q_and2, q_or, q_or1, q_or2, q_not, q_not1, q_yes, q_andV, q_andV1, q_andV2, q_orV, q_orV1, q_orV2, q_notV, q_notV1, q_ifE, q_ifE1, q_ifE2, q_nil, q_cons, q_cons1, q_cons2, q_tup, q_tup1, q_lst, q_lst1, q_cb, q_cb1, q_lenV, q_lenV1, q_seq, q_seq1, q_sl, q_st, q_so, q_sb, q_sf, q_mu, q_mu1, q_mu2, q_muS, q_muS1, q_muS2, q_app, q_app1, q_app2, q_pop, q_pop1, q_rev, q_rev1, q_isi, q_isi1, q_inV, q_inV1, q_ixV, q_ixV1, q_ixV2, q_ixV3, q_ixL, q_ixT, q_kV, q_fI, q_addI, q_eqI, q_eqS, q_eqB, q_int, q_tupL, q_tupT, q_listL, q_listT, q_len1, q_len2, q_neg, q_neg1, q_call, q_call2, q_call3, q_call4, q_cnil, q_ccons, q_ccons1, q_ccons2, q_cb', q_cb'1, q_ar0, q_ar1, q_ar2, q_ar3, q_ar4, q_ar5, q_put0, q_put1, q_put2, q_put3, q_put4, q_put5, q_bix0, q_bix1, q_bix2, q_sq, q_sq1, q_sq2, q_sq3, q_sq4, q_snil, q_ret, q_ret1, q_expr, q_expr1, q_ifS, q_ifS1, q_ifS2, q_set, q_set1, q_asg, q_asg1, q_gname, q_gnil, q_gcons, q_gcons1, q_par, q_par1, q_aug, q_aug1, q_aug2, q_rng, q_iseq, q_iseq1, q_sd1, q_sd2, q_kP2, q_fro, q_fro1, q_for, q_for1, q_k0, q_k1, q_w0, q_w1, q_lc, q_lc2, q_n1, q_n0, q_run, bO_b, bO_v, bO_n, finB0, finB1, q_at0, q_at1, q_at2, q_at3, q_bs, q_bn, q_ms, q_mn, q_g0, q_gs, q_s0, q_ss, List.head?_cons, List.tail_cons, List.map_cons, List.map_nil, List.length_cons, List.length_nil, List.cons_append, List.nil_append, List.replicate_succ, List.replicate_zero, Nat.reduceSub, Nat.reduceAdd, Bool.false_xor, Bool.true_xor, Bool.not_true, Bool.not_false, beq_self_eq_true, isBool, isInt, isStr, isTuple, q_callI, if_true, ite_true, List.nodup_nil, List.nodup_cons, List.not_mem_nil, not_false_eq_true, and_true, true_and, and_self, q_fg0, q_fg1, q_fg2, q_fg3, q_fg4, q_fg5, q_fg6, q_lg0, q_lg1, q_lg2, q_lg3, q_lg4, q_lg5, q_sub, q_sub1, q_sub2, q_sub3, q_sub4, q_sub5, q_rng2, q_rng2a, q_aS, q_aS1, q_aS2, q_aS3, q_aS4, q_aS5, q_aS5', q_aS7, c1, t1, Jp.enc]
    | false =>
      cases c2 : ((size : Int) == 1) with
      | true =>
        refine ⟨dr1.tail.tail, .fin (.tuple [.str "of", .int ((tn dr1.tail many : Nat) : Int)]), ?_, fun w hw => (List.not_mem_nil hw).elim⟩
        simp only [q_var, q_var1, q_var2, q_mv, q_mv1, q_mv2, q_c, q_pr, q_bin, q_bin1, q_bin2, q_dv, q_do, q_tst, q_tst1, q_isN, q_isN0, q_isN1, q_isN2, q_isN3, q_isN4, q_isN5, q_and, q_and1, q_and2, q_or, q_or1, q_or2, q_not, q_not1, q_yes, q_andV, q_andV1, q_andV2, q_orV, q_orV1, q_orV2, q_notV, q_notV1, q_ifE, q_ifE1, q_ifE2, q_nil, q_cons, q_cons1, q_cons2, q_tup, q_tup1, q_lst, q_lst1, q_cb, q_cb1, q_lenV, q_lenV1, q_seq, q_seq1, q_sl, q_st, q_so, q_sb, q_sf, q_mu, q_mu1, q_mu2, q_muS, q_muS1, q_muS2, q_app, q_app1, q_app2, q_pop, q_pop1, q_rev, q_rev1, q_isi, q_isi1, q_inV, q_inV1, q_ixV, q_ixV1, q_ixV2, q_ixV3, q_ixL, q_ixT, q_kV, q_fI, q_addI, q_eqI, q_eqS, q_eqB, q_int, q_tupL, q_tupT, q_listL, q_listT, q_len1, q_len2, q_neg, q_neg1, q_call, q_call2, q_call3, q_call4, q_cnil, q_ccons, q_ccons1, q_ccons2, q_cb', q_cb'1, q_ar0, q_ar1, q_ar2, q_ar3, q_ar4, q_ar5, q_put0, q_put1, q_put2, q_put3, q_put4, q_put5, q_bix0, q_bix1, q_bix2, q_sq, q_sq1, q_sq2, q_sq3, q_sq4, q_snil, q_ret, q_ret1, q_expr, q_expr1, q_ifS, q_ifS1, q_ifS2, q_set, q_set1, q_asg, q_asg1, q_gname, q_gnil, q_gcons, q_gcons1, q_par, q_par1, q_aug, q_aug1, q_aug2, q_rng, q_iseq, q_iseq1, q_sd1, q_sd2, q_kP2, q_fro, q_fro1, q_for, q_for1, q_k0, q_k1, q_w0, q_w1, q_lc, q_lc2, q_n1, q_n0, q_run, bO_b, bO_v, bO_n, finB0, finB1, q_at0, q_at1, q_at2, q_at3, q_bs, q_bn, q_ms, q_mn, q_g0, q_gs, q_s0, q_ss, List.head?_cons, List.tail_cons, List.map_cons, List.map_nil, List.length_cons, List.length_nil, List.cons_append, List.nil_append, List.replicate_succ, List.replicate_zero, Nat.reduceSub, Nat.reduceAdd, Bool.false_xor, Bool.true_xor, Bool.not_true, Bool.not_false, beq_self_eq_true, isBool, isInt, isStr, isTuple, q_callI, if_true, ite_true, List.nodup_nil, List.nodup_cons, List.not_mem_nil, not_false_eq_true, and_true, true_and, and_self, q_fg0, q_fg1, q_fg2, q_fg3, q_fg4, q_fg5, q_fg6, q_lg0, q_lg1, q_lg2, q_lg3, q_lg4, q_lg5, q_sub, q_sub1, q_sub2, q_sub3, q_sub4, q_sub5, q_rng2, q_rng2a, q_aS, q_aS1, q_aS2, q_aS3, q_aS4, q_aS5, q_aS5', q_aS7, c1, c2, t1, Jp.enc]
      | false =>
        cases c3 : (((tn dr1 5 : Nat) : Int) == 1) with
        | true =>
          refine ⟨dr1.tail.tail, .goto (tn dr1.tail size), ?_, fun w hw => ?_⟩
          · simp only [q_var, q_var1, q_var2, q_mv, q_mv1, q_mv2, q_c, q_pr, q_bin, q_bin1, q_bin2, q_dv, q_do, q_tst, q_tst1, q_isN, q_isN0, q_isN1, q_isN2, q_isN3, q_isN4, q_isN5, q_and, q_and1, q_and2, q_or, q_or1, q_or2, q_not, q_not1, q_yes, q_andV, q_andV1, q_andV2, q_orV, q_orV1, q_orV2, q_notV, q_notV1, q_ifE, q_ifE1, q_ifE2, q_nil, q_cons, q_cons1, q_cons2, q_tup, q_tup1, q_lst, q_lst1, q_cb, q_cb1, q_lenV, q_lenV1, q_seq, q_seq1, q_sl, q_st, q_so, q_sb, q_sf, q_mu, q_mu1, q_mu2, q_muS, q_muS1, q_muS2, q_app, q_app1, q_app2, q_pop, q_pop1, q_rev, q_rev1, q_isi, q_isi1, q_inV, q_inV1, q_ixV, q_ixV1, q_ixV2, q_ixV3, q_ixL, q_ixT, q_kV, q_fI, q_addI, q_eqI, q_eqS, q_eqB, q_int, q_tupL, q_tupT, q_listL, q_listT, q_len1, q_len2, q_neg, q_neg1, q_call, q_call2, q_call3, q_call4, q_cnil, q_ccons, q_ccons1, q_ccons2, q_cb', q_cb'1, q_ar0, q_ar1, q_ar2, q_ar3, q_ar4, q_ar5, q_put0, q_put1, q_put2, q_put3, q_put4, q_put5, q_bix0, q_bix1, q_bix2, q_sq, q_sq1, q_sq2, q_sq3, q_sq4, q_snil, q_ret, q_ret1, q_expr, q_expr1, q_ifS, q_ifS1, q_ifS2, q_set, q_set1, q_asg, q_asg1, q_gname, q_gnil, q_gcons, q_gcons1, q_par, q_par1, q_aug, q_aug1, q_aug2, q_rng, q_iseq, q_iseq1, q_sd1, q_sd2, q_kP2, q_fro, q_fro1, q_for, q_for1, q_k0, q_k1, q_w0, q_w1, q_lc, q_lc2, q_n1, q_n0, q_run, bO_b, bO_v, bO_n, finB0, finB1, q_at0, q_at1, q_at2, q_at3, q_bs, q_bn, q_ms, q_mn, q_g0, q_gs, q_s0, q_ss, List.head?_cons, List.tail_cons, List.map_cons, List.map_nil, List.length_cons, List.length_nil, List.cons_append, List.nil_append, List.replicate_succ, List.replicate_zero, Nat.reduceSub, Nat.reduceAdd, Bool.false_xor, Bool.true_xor, Bool.not_true, Bool.not_false, beq_self_eq_true, isBool, isInt, isStr, isTuple, q_callI, if_true, ite_true, List.nodup_nil, List.nodup_cons, List.not_mem_nil, not_false_eq_true, and_true, true_and, and_self, q_fg0, q_fg1, q_fg2, q_fg3, q_fg4, q_fg5, q_fg6, q_lg0, q_lg1, q_lg2, q_lg3, q_lg4, q_lg5, q_sub, q_sub1, q_sub2, q_sub3, q_sub4, q_sub5, q_rng2, q_rng2a, q_aS, q_aS1, q_aS2, q_aS3, q_aS4, q_aS5, q_aS5', q_aS7, c1, c2, c3, t2, Jp.enc]
          · have : w = tn dr1.tail size := by simpa [Jp.ways] using hw
            omega
        | false =>
          obtain ⟨d, dr2, h1⟩ := fall_eq dr1.tail falls many c
          have t3 := take_n dr2 hs
          have l3 := tn_lt dr2 hs
          have t4 := take_n dr2.tail hs
          have l4 := tn_lt dr2.tail hs
          refine ⟨dr2.tail.tail, .test d (tn dr2 size) (tn dr2.tail size), ?_, fun w hw => ?_⟩
          · simp only [q_var, q_var1, q_var2, q_mv, q_mv1, q_mv2, q_c, q_pr, q_bin, q_bin1, q_bin2, q_dv, q_do, q_tst, q_tst1, q_isN, q_isN0, q_isN1, q_isN2, q_isN3, q_isN4, q_isN5, q_and, q_and1, q_and2, q_or, q_or1, q_or2, q_not, q_not1, q_yes, q_andV, q_andV1, q_andV2, q_orV, q_orV1, q_orV2, q_notV, q_notV1, q_ifE, q_ifE1, q_ifE2, q_nil, q_cons, q_cons1, q_cons2, q_tup, q_tup1, q_lst, q_lst1, q_cb, q_cb1, q_lenV, q_lenV1, q_seq, q_seq1, q_sl, q_st, q_so, q_sb, q_sf, q_mu, q_mu1, q_mu2, q_muS, q_muS1, q_muS2, q_app, q_app1, q_app2, q_pop, q_pop1, q_rev, q_rev1, q_isi, q_isi1, q_inV, q_inV1, q_ixV, q_ixV1, q_ixV2, q_ixV3, q_ixL, q_ixT, q_kV, q_fI, q_addI, q_eqI, q_eqS, q_eqB, q_int, q_tupL, q_tupT, q_listL, q_listT, q_len1, q_len2, q_neg, q_neg1, q_call, q_call2, q_call3, q_call4, q_cnil, q_ccons, q_ccons1, q_ccons2, q_cb', q_cb'1, q_ar0, q_ar1, q_ar2, q_ar3, q_ar4, q_ar5, q_put0, q_put1, q_put2, q_put3, q_put4, q_put5, q_bix0, q_bix1, q_bix2, q_sq, q_sq1, q_sq2, q_sq3, q_sq4, q_snil, q_ret, q_ret1, q_expr, q_expr1, q_ifS, q_ifS1, q_ifS2, q_set, q_set1, q_asg, q_asg1, q_gname, q_gnil, q_gcons, q_gcons1, q_par, q_par1, q_aug, q_aug1, q_aug2, q_rng, q_iseq, q_iseq1, q_sd1, q_sd2, q_kP2, q_fro, q_fro1, q_for, q_for1, q_k0, q_k1, q_w0, q_w1, q_lc, q_lc2, q_n1, q_n0, q_run, bO_b, bO_v, bO_n, finB0, finB1, q_at0, q_at1, q_at2, q_at3, q_bs, q_bn, q_ms, q_mn, q_g0, q_gs, q_s0, q_ss, List.head?_cons, List.tail_cons, List.map_cons, List.map_nil, List.length_cons, List.length_nil, List.cons_append, List.nil_append, List.replicate_succ, List.replicate_zero, Nat.reduceSub, Nat.reduceAdd, Bool.false_xor, Bool.true_xor, Bool.not_true, Bool.not_false, beq_self_eq_true, isBool, isInt, isStr, isTuple, q_callI, if_true, ite_true, List.nodup_nil, List.nodup_cons, List.not_mem_nil, not_false_eq_true, and_true, true_and, and_self, q_fg0, q_fg1, q_fg2, q_fg3, q_fg4, q_fg5, q_fg6, q_lg0, q_lg1, q_lg2, q_lg3, q_lg4, q_lg5, q_sub, q_sub1, q_sub2, q_sub3, q_sub4, q_sub5, q_rng2, q_rng2a, q_aS, q_aS1, q_aS2, q_aS3, q_aS4, q_aS5, q_aS5', q_aS7, c1, c2, c3, h1, t3, t4, Jp.enc]
          · have : w = tn dr2 size ∨ w = tn dr2.tail size := by simpa [Jp.ways] using hw
            omega
  obtain ⟨dr2, j, hJ, hw⟩ := J
  refine ⟨dr2, (PyData.tuple as, j), _, [some (.bor (E dr2)), some (.val (.int (falls : Int))), some (.val (.int (many : Int))), some (.val (.int (size : Int))), some (.val (.int c)), some (.own ((bs ++ [(PyData.tuple as, j)]).map encB)), some (.val (.int a)), some (.val (.list as)), none, none, some (.val (.int ((tn dr1 5 : Nat) : Int))), some (.val j.enc)], rfl, ?_, rfl, hw⟩
  rw [encB_app]
  unfold w_Lprogram_2 envP
  rw [q_sq]
  have s1 : rsSet 7 (rdLst raNil) [some (.bor (E dr)), some (.val (.int (falls : Int))), some (.val (.int (many : Int))), some (.val (.int (size : Int))), some (.val (.int c)), some (.own (bs.map encB)), some (.val (.int a)), none, none, none, none, none] = some (.nx [some (.bor (E dr)), some (.val (.int (falls : Int))), some (.val (.int (many : Int))), some (.val (.int (size : Int))), some (.val (.int c)), some (.own (bs.map encB)), some (.val (.int a)), some (.own []), none, none, none, none]) := by
    simp only [q_var, q_var1, q_var2, q_mv, q_mv1, q_mv2, q_c, q_pr, q_bin, q_bin1, q_bin2, q_dv, q_do, q_tst, q_tst1, q_isN, q_isN0, q_isN1, q_isN2, q_isN3, q_isN4, q_isN5, q_and, q_and1, q_and2, q_or, q_or1, q_or2, q_not, q_not1, q_yes, q_andV, q_andV1, q_andV2, q_orV, q_orV1, q_orV2, q_notV, q_notV1, q_ifE, q_ifE1, q_ifE2, q_nil, q_cons, q_cons1, q_cons2, q_tup, q_tup1, q_lst, q_lst1, q_cb, q_cb1, q_lenV, q_lenV1, q_seq, q_seq1, q_sl, q_st, q_so, q_sb, q_sf, q_mu, q_mu1, q_mu2, q_muS, q_muS1, q_muS2, q_app, q_app1, q_app2, q_pop, q_pop1, q_rev, q_rev1, q_isi, q_isi1, q_inV, q_inV1, q_ixV, q_ixV1, q_ixV2, q_ixV3, q_ixL, q_ixT, q_kV, q_fI, q_addI, q_eqI, q_eqS, q_eqB, q_int, q_tupL, q_tupT, q_listL, q_listT, q_len1, q_len2, q_neg, q_neg1, q_call, q_call2, q_call3, q_call4, q_cnil, q_ccons, q_ccons1, q_ccons2, q_cb', q_cb'1, q_ar0, q_ar1, q_ar2, q_ar3, q_ar4, q_ar5, q_put0, q_put1, q_put2, q_put3, q_put4, q_put5, q_bix0, q_bix1, q_bix2, q_sq, q_sq1, q_sq2, q_sq3, q_sq4, q_snil, q_ret, q_ret1, q_expr, q_expr1, q_ifS, q_ifS1, q_ifS2, q_set, q_set1, q_asg, q_asg1, q_gname, q_gnil, q_gcons, q_gcons1, q_par, q_par1, q_aug, q_aug1, q_aug2, q_rng, q_iseq, q_iseq1, q_sd1, q_sd2, q_kP2, q_fro, q_fro1, q_for, q_for1, q_k0, q_k1, q_w0, q_w1, q_lc, q_lc2, q_n1, q_n0, q_run, bO_b, bO_v, bO_n, finB0, finB1, q_at0, q_at1, q_at2, q_at3, q_bs, q_bn, q_ms, q_mn, q_g0, q_gs, q_s0, q_ss, List.head?_cons, List.tail_cons, List.map_cons, List.map_nil, List.length_cons, List.length_nil, List.cons_append, List.nil_append, List.replicate_succ, List.replicate_zero, Nat.reduceSub, Nat.reduceAdd, Bool.false_xor, Bool.true_xor, Bool.not_true, Bool.not_false, beq_self_eq_true, isBool, isInt, isStr, isTuple, q_callI, if_true, ite_true, List.nodup_nil, List.nodup_cons, List.not_mem_nil, not_false_eq_true, and_true, true_and, and_self, q_fg0, q_fg1, q_fg2, q_fg3, q_fg4, q_fg5, q_fg6, q_lg0, q_lg1, q_lg2, q_lg3, q_lg4, q_lg5, q_sub, q_sub1, q_sub2, q_sub3, q_sub4, q_sub5, q_rng2, q_rng2a, q_aS, q_aS1, q_aS2, q_aS3, q_aS4, q_aS5, q_aS5', q_aS7]
  show (rsSet 7 (rdLst raNil) [some (.bor (E dr)), some (.val (.int (falls : Int))), some (.val (.int (many : Int))), some (.val (.int (size : Int))), some (.val (.int c)), some (.own (bs.map encB)), some (.val (.int a)), none, none, none, none, none]).bind _ = _
  rw [s1, q_bs, q_sq1, q_sq]
  have s2 : rsFor (riRng1 (rdCall f_Ltake (rcB 0 (rcCons (rdC (.int 4)) (rcNil))))) (rgName 8) w_Lprogram_1 [8, 9] [some (.bor (E dr)), some (.val (.int (falls : Int))), some (.val (.int (many : Int))), some (.val (.int (size : Int))), some (.val (.int c)), some (.own (bs.map encB)), some (.val (.int a)), some (.own []), none, none, none, none] = some (.nx [some (.bor (E dr1)), some (.val (.int (falls : Int))), some (.val (.int (many : Int))), some (.val (.int (size : Int))), some (.val (.int c)), some (.own (bs.map encB)), some (.val (.int a)), some (.own as), none, none, none, none]) := by
    simp only [q_var, q_var1, q_var2, q_mv, q_mv1, q_mv2, q_c, q_pr, q_bin, q_bin1, q_bin2, q_dv, q_do, q_tst, q_tst1, q_isN, q_isN0, q_isN1, q_isN2, q_isN3, q_isN4, q_isN5, q_and, q_and1, q_and2, q_or, q_or1, q_or2, q_not, q_not1, q_yes, q_andV, q_andV1, q_andV2, q_orV, q_orV1, q_orV2, q_notV, q_notV1, q_ifE, q_ifE1, q_ifE2, q_nil, q_cons, q_cons1, q_cons2, q_tup, q_tup1, q_lst, q_lst1, q_cb, q_cb1, q_lenV, q_lenV1, q_seq, q_seq1, q_sl, q_st, q_so, q_sb, q_sf, q_mu, q_mu1, q_mu2, q_muS, q_muS1, q_muS2, q_app, q_app1, q_app2, q_pop, q_pop1, q_rev, q_rev1, q_isi, q_isi1, q_inV, q_inV1, q_ixV, q_ixV1, q_ixV2, q_ixV3, q_ixL, q_ixT, q_kV, q_fI, q_addI, q_eqI, q_eqS, q_eqB, q_int, q_tupL, q_tupT, q_listL, q_listT, q_len1, q_len2, q_neg, q_neg1, q_call, q_call2, q_call3, q_call4, q_cnil, q_ccons, q_ccons1, q_ccons2, q_cb', q_cb'1, q_ar0, q_ar1, q_ar2, q_ar3, q_ar4, q_ar5, q_put0, q_put1, q_put2, q_put3, q_put4, q_put5, q_bix0, q_bix1, q_bix2, q_sq, q_sq1, q_sq2, q_sq3, q_sq4, q_snil, q_ret, q_ret1, q_expr, q_expr1, q_ifS, q_ifS1, q_ifS2, q_set, q_set1, q_asg, q_asg1, q_gname, q_gnil, q_gcons, q_gcons1, q_par, q_par1, q_aug, q_aug1, q_aug2, q_rng, q_iseq, q_iseq1, q_sd1, q_sd2, q_kP2, q_fro, q_fro1, q_for, q_for1, q_k0, q_k1, q_w0, q_w1, q_lc, q_lc2, q_n1, q_n0, q_run, bO_b, bO_v, bO_n, finB0, finB1, q_at0, q_at1, q_at2, q_at3, q_bs, q_bn, q_ms, q_mn, q_g0, q_gs, q_s0, q_ss, List.head?_cons, List.tail_cons, List.map_cons, List.map_nil, List.length_cons, List.length_nil, List.cons_append, List.nil_append, List.replicate_succ, List.replicate_zero, Nat.reduceSub, Nat.reduceAdd, Bool.false_xor, Bool.true_xor, Bool.not_true, Bool.not_false, beq_self_eq_true, isBool, isInt, isStr, isTuple, q_callI, if_true, ite_true, List.nodup_nil, List.nodup_cons, List.not_mem_nil, not_false_eq_true, and_true, true_and, and_self, q_fg0, q_fg1, q_fg2, q_fg3, q_fg4, q_fg5, q_fg6, q_lg0, q_lg1, q_lg2, q_lg3, q_lg4, q_lg5, q_sub, q_sub1, q_sub2, q_sub3, q_sub4, q_sub5, q_rng2, q_rng2a, q_aS, q_aS1, q_aS2, q_aS3, q_aS4, q_aS5, q_aS5', q_aS7, take_4, q4, Int.toNat_natCast, H1]
  rw [s2, q_bs, q_sq1, q_sq]
  have s3 : rsSet 10 (rdCall f_Ltake (rcB 0 (rcCons (rdC (.int 5)) (rcNil)))) [some (.bor (E dr1)), some (.val (.int (falls : Int))), some (.val (.int (many : Int))), some (.val (.int (size : Int))), some (.val (.int c)), some (.own (bs.map encB)), some (.val (.int a)), some (.own as), none, none, none, none] = some (.nx [some (.bor (E dr1.tail)), some (.val (.int (falls : Int))), some (.val (.int (many : Int))), some (.val (.int (size : Int))), some (.val (.int c)), some (.own (bs.map encB)), some (.val (.int a)), some (.own as), none, none, some (.val (.int ((tn dr1 5 : Nat) : Int))), none]) := by
    simp only [q_var, q_var1, q_var2, q_mv, q_mv1, q_mv2, q_c, q_pr, q_bin, q_bin1, q_bin2, q_dv, q_do, q_tst, q_tst1, q_isN, q_isN0, q_isN1, q_isN2, q_isN3, q_isN4, q_isN5, q_and, q_and1, q_and2, q_or, q_or1, q_or2, q_not, q_not1, q_yes, q_andV, q_andV1, q_andV2, q_orV, q_orV1, q_orV2, q_notV, q_notV1, q_ifE, q_ifE1, q_ifE2, q_nil, q_cons, q_cons1, q_cons2, q_tup, q_tup1, q_lst, q_lst1, q_cb, q_cb1, q_lenV, q_lenV1, q_seq, q_seq1, q_sl, q_st, q_so, q_sb, q_sf, q_mu, q_mu1, q_mu2, q_muS, q_muS1, q_muS2, q_app, q_app1, q_app2, q_pop, q_pop1, q_rev, q_rev1, q_isi, q_isi1, q_inV, q_inV1, q_ixV, q_ixV1, q_ixV2, q_ixV3, q_ixL, q_ixT, q_kV, q_fI, q_addI, q_eqI, q_eqS, q_eqB, q_int, q_tupL, q_tupT, q_listL, q_listT, q_len1, q_len2, q_neg, q_neg1, q_call, q_call2, q_call3, q_call4, q_cnil, q_ccons, q_ccons1, q_ccons2, q_cb', q_cb'1, q_ar0, q_ar1, q_ar2, q_ar3, q_ar4, q_ar5, q_put0, q_put1, q_put2, q_put3, q_put4, q_put5, q_bix0, q_bix1, q_bix2, q_sq, q_sq1, q_sq2, q_sq3, q_sq4, q_snil, q_ret, q_ret1, q_expr, q_expr1, q_ifS, q_ifS1, q_ifS2, q_set, q_set1, q_asg, q_asg1, q_gname, q_gnil, q_gcons, q_gcons1, q_par, q_par1, q_aug, q_aug1, q_aug2, q_rng, q_iseq, q_iseq1, q_sd1, q_sd2, q_kP2, q_fro, q_fro1, q_for, q_for1, q_k0, q_k1, q_w0, q_w1, q_lc, q_lc2, q_n1, q_n0, q_run, bO_b, bO_v, bO_n, finB0, finB1, q_at0, q_at1, q_at2, q_at3, q_bs, q_bn, q_ms, q_mn, q_g0, q_gs, q_s0, q_ss, List.head?_cons, List.tail_cons, List.map_cons, List.map_nil, List.length_cons, List.length_nil, List.cons_append, List.nil_append, List.replicate_succ, List.replicate_zero, Nat.reduceSub, Nat.reduceAdd, Bool.false_xor, Bool.true_xor, Bool.not_true, Bool.not_false, beq_self_eq_true, isBool, isInt, isStr, isTuple, q_callI, if_true, ite_true, List.nodup_nil, List.nodup_cons, List.not_mem_nil, not_false_eq_true, and_true, true_and, and_self, q_fg0, q_fg1, q_fg2, q_fg3, q_fg4, q_fg5, q_fg6, q_lg0, q_lg1, q_lg2, q_lg3, q_lg4, q_lg5, q_sub, q_sub1, q_sub2, q_sub3, q_sub4, q_sub5, q_rng2, q_rng2a, q_aS, q_aS1, q_aS2, q_aS3, q_aS4, q_aS5, q_aS5', q_aS7, take_5]
  rw [s3, q_bs, q_sq1, q_sq, hJ, q_bs, q_sq1]
  simp only [q_var, q_var1, q_var2, q_mv, q_mv1, q_mv2, q_c, q_pr, q_bin, q_bin1, q_bin2, q_dv, q_do, q_tst, q_tst1, q_isN, q_isN0, q_isN1, q_isN2, q_isN3, q_isN4, q_isN5, q_and, q_and1, q_and2, q_or, q_or1, q_or2, q_not, q_not1, q_yes, q_andV, q_andV1, q_andV2, q_orV, q_orV1, q_orV2, q_notV, q_notV1, q_ifE, q_ifE1, q_ifE2, q_nil, q_cons, q_cons1, q_cons2, q_tup, q_tup1, q_lst, q_lst1, q_cb, q_cb1, q_lenV, q_lenV1, q_seq, q_seq1, q_sl, q_st, q_so, q_sb, q_sf, q_mu, q_mu1, q_mu2, q_muS, q_muS1, q_muS2, q_app, q_app1, q_app2, q_pop, q_pop1, q_rev, q_rev1, q_isi, q_isi1, q_inV, q_inV1, q_ixV, q_ixV1, q_ixV2, q_ixV3, q_ixL, q_ixT, q_kV, q_fI, q_addI, q_eqI, q_eqS, q_eqB, q_int, q_tupL, q_tupT, q_listL, q_listT, q_len1, q_len2, q_neg, q_neg1, q_call, q_call2, q_call3, q_call4, q_cnil, q_ccons, q_ccons1, q_ccons2, q_cb', q_cb'1, q_ar0, q_ar1, q_ar2, q_ar3, q_ar4, q_ar5, q_put0, q_put1, q_put2, q_put3, q_put4, q_put5, q_bix0, q_bix1, q_bix2, q_sq, q_sq1, q_sq2, q_sq3, q_sq4, q_snil, q_ret, q_ret1, q_expr, q_expr1, q_ifS, q_ifS1, q_ifS2, q_set, q_set1, q_asg, q_asg1, q_gname, q_gnil, q_gcons, q_gcons1, q_par, q_par1, q_aug, q_aug1, q_aug2, q_rng, q_iseq, q_iseq1, q_sd1, q_sd2, q_kP2, q_fro, q_fro1, q_for, q_for1, q_k0, q_k1, q_w0, q_w1, q_lc, q_lc2, q_n1, q_n0, q_run, bO_b, bO_v, bO_n, finB0, finB1, q_at0, q_at1, q_at2, q_at3, q_bs, q_bn, q_ms, q_mn, q_g0, q_gs, q_s0, q_ss, List.head?_cons, List.tail_cons, List.map_cons, List.map_nil, List.length_cons, List.length_nil, List.cons_append, List.nil_append, List.replicate_succ, List.replicate_zero, Nat.reduceSub, Nat.reduceAdd, Bool.false_xor, Bool.true_xor, Bool.not_true, Bool.not_false, beq_self_eq_true, isBool, isInt, isStr, isTuple, q_callI, if_true, ite_true, List.nodup_nil, List.nodup_cons, List.not_mem_nil, not_false_eq_true, and_true, true_and, and_self, q_fg0, q_fg1, q_fg2, q_fg3, q_fg4, q_fg5, q_fg6, q_lg0, q_lg1, q_lg2, q_lg3, q_lg4, q_lg5, q_sub, q_sub1, q_sub2, q_sub3, q_sub4, q_sub5, q_rng2, q_rng2a, q_aS, q_aS1, q_aS2, q_aS3, q_aS4, q_aS5, q_aS5', q_aS7, q_app3 hz]
theorem wf_of {p : Pg} (h1 : 0 < p.n) (h2 : p.n ≤ 6) (h : ∀ x ∈ p.bs, ∀ w ∈ x.2.ways, w < p.n) : p.Wf := by
  refine ⟨h1, h2, fun b w hw => ?_⟩
  unfold Pg.W at hw
  cases e : p.bs[b]? with
  | none => rw [e] at hw; exact (List.not_mem_nil hw).elim
  | some x =>
    rw [e] at hw
    exact h x (List.mem_of_getElem? e) w hw
theorem program_eq (dr : List Int) (falls many size : Nat) (hm : 0 < many) (hs : 0 < size) (hs6 : size ≤ 6) (c : Int) :
    ∃ (p : Pg) (dr' : List Int), f_Lprogram [.bor (E dr), .val (.int (falls : Int)), .val (.int (many : Int)), .val (.int (size : Int)), .val (.int c)] = some (.val p.enc, [some (.bor (E dr')), none, none, none, none]) ∧ p.Wf := by
  obtain ⟨ρ', H1, dr', bs, hl, hw, hρ⟩ := for_inv (g := rgName 6) (b := w_Lprogram_2) (ks := [6, 7, 8, 9, 10, 11]) (ds := rng 0 size) (ρ := envP dr falls many size c [])
    (fun i ρ => ∃ dr' bs, bs.length = i ∧ (∀ x ∈ bs, ∀ w ∈ x.2.ways, w < size) ∧ ρ = envP dr' falls many size c bs) 0 ⟨dr, [], rfl, fun x h => (List.not_mem_nil h).elim, rfl⟩ fun i d ρ hd h => by
      obtain ⟨dr1, bs, hl, hw, rfl⟩ := h
      obtain ⟨hi, rfl⟩ := rng_get hd
      obtain ⟨dr2, x, ρ1, ρ2, h1, h2, h3, h4⟩ := prog_w2 dr1 falls many size hm hs c bs (by omega) (0 + (i : Int))
      refine ⟨ρ1, ρ2, h1, h2, dr2, bs ++ [x], by rw [List.length_append, hl]; rfl, fun y hy => ?_, h3⟩
      rcases List.mem_append.mp hy with hy | hy
      · exact hw y hy
      · have : y = x := by simpa using hy
        rw [this]
        exact h4
  rw [hρ] at H1
  have hn : bs.length = size := by
    have : (rng 0 size).length = size := by rw [rng0, List.length_map, List.length_range]
    omega
  refine ⟨⟨(many : Int), bs⟩, dr', ?_, wf_of (p := ⟨(many : Int), bs⟩) (show 0 < bs.length by omega) (show bs.length ≤ 6 by omega) (fun x hx w hw2 => show w < bs.length by rw [hn]; exact hw x hx w hw2)⟩
  unfold f_Lprogram b_Lprogram
  unfold envP at H1
  rw [List.map_nil] at H1
  simp only [q_var, q_var1, q_var2, q_mv, q_mv1, q_mv2, q_c, q_pr, q_bin, q_bin1, q_bin2, q_dv, q_do, q_tst, q_tst1, q_isN, q_isN0, q_isN1, q_isN2, q_isN3, q_isN4, q_isN5, q_and, q_and1, q_and2, q_or, q_or1, q_or2, q_not, q_not1, q_yes, q_andV, q_andV1, q_andV2, q_orV, q_orV1, q_orV2, q_notV, q_notV1, q_ifE, q_ifE1, q_ifE2, q_nil, q_cons, q_cons1, q_cons2, q_tup, q_tup1, q_lst, q_lst1, q_cb, q_cb1, q_lenV, q_lenV1, q_seq, q_seq1, q_sl, q_st, q_so, q_sb, q_sf, q_mu, q_mu1, q_mu2, q_muS, q_muS1, q_muS2, q_app, q_app1, q_app2, q_pop, q_pop1, q_rev, q_rev1, q_isi, q_isi1, q_inV, q_inV1, q_ixV, q_ixV1, q_ixV2, q_ixV3, q_ixL, q_ixT, q_kV, q_fI, q_addI, q_eqI, q_eqS, q_eqB, q_int, q_tupL, q_tupT, q_listL, q_listT, q_len1, q_len2, q_neg, q_neg1, q_call, q_call2, q_call3, q_call4, q_cnil, q_ccons, q_ccons1, q_ccons2, q_cb', q_cb'1, q_ar0, q_ar1, q_ar2, q_ar3, q_ar4, q_ar5, q_put0, q_put1, q_put2, q_put3, q_put4, q_put5, q_bix0, q_bix1, q_bix2, q_sq, q_sq1, q_sq2, q_sq3, q_sq4, q_snil, q_ret, q_ret1, q_expr, q_expr1, q_ifS, q_ifS1, q_ifS2, q_set, q_set1, q_asg, q_asg1, q_gname, q_gnil, q_gcons, q_gcons1, q_par, q_par1, q_aug, q_aug1, q_aug2, q_rng, q_iseq, q_iseq1, q_sd1, q_sd2, q_kP2, q_fro, q_fro1, q_for, q_for1, q_k0, q_k1, q_w0, q_w1, q_lc, q_lc2, q_n1, q_n0, q_run, bO_b, bO_v, bO_n, finB0, finB1, q_at0, q_at1, q_at2, q_at3, q_bs, q_bn, q_ms, q_mn, q_g0, q_gs, q_s0, q_ss, List.head?_cons, List.tail_cons, List.map_cons, List.map_nil, List.length_cons, List.length_nil, List.cons_append, List.nil_append, List.replicate_succ, List.replicate_zero, Nat.reduceSub, Nat.reduceAdd, Bool.false_xor, Bool.true_xor, Bool.not_true, Bool.not_false, beq_self_eq_true, isBool, isInt, isStr, isTuple, q_callI, if_true, ite_true, List.nodup_nil, List.nodup_cons, List.not_mem_nil, not_false_eq_true, and_true, true_and, and_self, q_fg0, q_fg1, q_fg2, q_fg3, q_fg4, q_fg5, q_fg6, q_lg0, q_lg1, q_lg2, q_lg3, q_lg4, q_lg5, q_sub, q_sub1, q_sub2, q_sub3, q_sub4, q_sub5, q_rng2, q_rng2a, q_aS, q_aS1, q_aS2, q_aS3, q_aS4, q_aS5, q_aS5', q_aS7, q_rng1 (n62 (show size ≤ 1000 by omega)), Int.toNat_natCast, H1, Pg.enc]
/-! ### _law_forward -/
def envW (p : Pg) (dr : List Int) (bs : List (D × Jp)) : En := [some (.bor (E dr)), some (.val p.enc), some (.val (.int (p.n : Int))), some (.own (bs.map encB)), none, none, none, none]
theorem sg5 : ((Str.ofString "goto") == (Str.ofString "end")) = false := by decide +kernel
theorem sg6 : ((Str.ofString "test") == (Str.ofString "end")) = false := by decide +kernel
theorem sl_2 {x0 x1 x2 x3 x4 x5 x7 : Option S} {a b c d : D} : rdSl (rdVar 6) roNone (roSome (rdC (.int 2))) [x0, x1, x2, x3, x4, x5, some (.val (.tuple [a, b, c, d])), x7] = some (.val (.tuple [a, b]), [x0, x1, x2, x3, x4, x5, some (.val (.tuple [a, b, c, d])), x7]) := Eq.trans rfl rfl
theorem fwd_w (p : Pg) (wf : p.Wf) (dr : List Int) (bs : List (D × Jp)) (hb : bs.length ≤ 1000) (k : Nat) (hk : k < p.n) :
    ∃ dr' x ρ1 ρ2, rgName 4 (.int (k : Int)) (envW p dr bs) = some ρ1 ∧ w_Lforward_1 ρ1 = some (.nx ρ2) ∧ killE [4, 5, 6, 7] ρ2 = envW p dr' (bs ++ [x]) ∧ ∀ w ∈ x.2.ways, w < p.n := by
  have hz : (bs.map encB).length < sizeLine := by rw [List.length_map]; exact sz_lt (by omega)
  obtain ⟨x, hx, ha, hw⟩ := blk_at hk
  obtain ⟨xa, xj⟩ := x
  have e : (p.n : Int) - 1 - (k : Int) = ((p.n - 1 - k : Nat) : Int) := by omega
  have e1 : (k : Int) + 1 = ((k + 1 : Nat) : Int) := by omega
  have hg : ∀ {ρ : En} {q : List D → En → Option En}, rgTup 2 q (encB (xa, xj)) ρ = q [xa, xj.enc] ρ := q_gtup rfl
  by_cases hbz : p.n - 1 - k = 0
  · have c0 : (((p.n - 1 - k : Nat) : Int) == 0) = true := by rw [hbz]; rfl
    have fin : ∀ (e : D), ∃ dr' x ρ1 ρ2, rgName 4 (.int (k : Int)) (envW p dr bs) = some ρ1 ∧ w_Lforward_1 ρ1 = some (.nx ρ2) ∧ killE [4, 5, 6, 7] ρ2 = envW p dr' (bs ++ [x]) ∧ ∀ w ∈ x.2.ways, w < p.n := by
      intro _
      cases xj with
      | goto l =>
        refine ⟨dr, (xa, Jp.fin (PyData.tuple [.str "of", .int 0])), _, [some (.bor (E dr)), some (.val p.enc), some (.val (.int (p.n : Int))), some (.own ((bs ++ [(xa, Jp.fin (PyData.tuple [.str "of", .int 0]))]).map encB)), some (.val (.int (k : Int))), some (.val xa), some (.val (Jp.fin (PyData.tuple [.str "of", .int 0])).enc), some (.val (.int ((p.n - 1 - k : Nat) : Int)))], rfl, ?_, rfl, fun w hw => (List.not_mem_nil hw).elim⟩
        rw [encB_app]
        unfold w_Lforward_1 envW Pg.enc
        simp only [q_var, q_var1, q_var2, q_mv, q_mv1, q_mv2, q_c, q_pr, q_bin, q_bin1, q_bin2, q_dv, q_do, q_tst, q_tst1, q_isN, q_isN0, q_isN1, q_isN2, q_isN3, q_isN4, q_isN5, q_and, q_and1, q_and2, q_or, q_or1, q_or2, q_not, q_not1, q_yes, q_andV, q_andV1, q_andV2, q_orV, q_orV1, q_orV2, q_notV, q_notV1, q_ifE, q_ifE1, q_ifE2, q_nil, q_cons, q_cons1, q_cons2, q_tup, q_tup1, q_lst, q_lst1, q_cb, q_cb1, q_lenV, q_lenV1, q_seq, q_seq1, q_sl, q_st, q_so, q_sb, q_sf, q_mu, q_mu1, q_mu2, q_muS, q_muS1, q_muS2, q_app, q_app1, q_app2, q_pop, q_pop1, q_rev, q_rev1, q_isi, q_isi1, q_inV, q_inV1, q_ixV, q_ixV1, q_ixV2, q_ixV3, q_ixL, q_ixT, q_kV, q_fI, q_addI, q_eqI, q_eqS, q_eqB, q_int, q_tupL, q_tupT, q_listL, q_listT, q_len1, q_len2, q_neg, q_neg1, q_call, q_call2, q_call3, q_call4, q_cnil, q_ccons, q_ccons1, q_ccons2, q_cb', q_cb'1, q_ar0, q_ar1, q_ar2, q_ar3, q_ar4, q_ar5, q_put0, q_put1, q_put2, q_put3, q_put4, q_put5, q_bix0, q_bix1, q_bix2, q_sq, q_sq1, q_sq2, q_sq3, q_sq4, q_snil, q_ret, q_ret1, q_expr, q_expr1, q_ifS, q_ifS1, q_ifS2, q_set, q_set1, q_asg, q_asg1, q_gname, q_gnil, q_gcons, q_gcons1, q_par, q_par1, q_aug, q_aug1, q_aug2, q_rng, q_iseq, q_iseq1, q_sd1, q_sd2, q_kP2, q_fro, q_fro1, q_for, q_for1, q_k0, q_k1, q_w0, q_w1, q_lc, q_lc2, q_n1, q_n0, q_run, bO_b, bO_v, bO_n, finB0, finB1, q_at0, q_at1, q_at2, q_at3, q_bs, q_bn, q_ms, q_mn, q_g0, q_gs, q_s0, q_ss, List.head?_cons, List.tail_cons, List.map_cons, List.map_nil, List.length_cons, List.length_nil, List.cons_append, List.nil_append, List.replicate_succ, List.replicate_zero, Nat.reduceSub, Nat.reduceAdd, Bool.false_xor, Bool.true_xor, Bool.not_true, Bool.not_false, beq_self_eq_true, isBool, isInt, isStr, isTuple, q_callI, if_true, ite_true, List.nodup_nil, List.nodup_cons, List.not_mem_nil, not_false_eq_true, and_true, true_and, and_self, q_fg0, q_fg1, q_fg2, q_fg3, q_fg4, q_fg5, q_fg6, q_lg0, q_lg1, q_lg2, q_lg3, q_lg4, q_lg5, q_sub, q_sub1, q_sub2, q_sub3, q_sub4, q_sub5, q_rng2, q_rng2a, q_aS, q_aS1, q_aS2, q_aS3, q_aS4, q_aS5, q_aS5', q_aS7, ha, hg, e, c0, Jp.enc, sg5, q_app3 hz]
      | test t l m =>
        refine ⟨dr, (xa, Jp.fin (PyData.tuple [.str "of", .int 0])), _, [some (.bor (E dr)), some (.val p.enc), some (.val (.int (p.n : Int))), some (.own ((bs ++ [(xa, Jp.fin (PyData.tuple [.str "of", .int 0]))]).map encB)), some (.val (.int (k : Int))), some (.val xa), some (.val (Jp.fin (PyData.tuple [.str "of", .int 0])).enc), some (.val (.int ((p.n - 1 - k : Nat) : Int)))], rfl, ?_, rfl, fun w hw => (List.not_mem_nil hw).elim⟩
        rw [encB_app]
        unfold w_Lforward_1 envW Pg.enc
        simp only [q_var, q_var1, q_var2, q_mv, q_mv1, q_mv2, q_c, q_pr, q_bin, q_bin1, q_bin2, q_dv, q_do, q_tst, q_tst1, q_isN, q_isN0, q_isN1, q_isN2, q_isN3, q_isN4, q_isN5, q_and, q_and1, q_and2, q_or, q_or1, q_or2, q_not, q_not1, q_yes, q_andV, q_andV1, q_andV2, q_orV, q_orV1, q_orV2, q_notV, q_notV1, q_ifE, q_ifE1, q_ifE2, q_nil, q_cons, q_cons1, q_cons2, q_tup, q_tup1, q_lst, q_lst1, q_cb, q_cb1, q_lenV, q_lenV1, q_seq, q_seq1, q_sl, q_st, q_so, q_sb, q_sf, q_mu, q_mu1, q_mu2, q_muS, q_muS1, q_muS2, q_app, q_app1, q_app2, q_pop, q_pop1, q_rev, q_rev1, q_isi, q_isi1, q_inV, q_inV1, q_ixV, q_ixV1, q_ixV2, q_ixV3, q_ixL, q_ixT, q_kV, q_fI, q_addI, q_eqI, q_eqS, q_eqB, q_int, q_tupL, q_tupT, q_listL, q_listT, q_len1, q_len2, q_neg, q_neg1, q_call, q_call2, q_call3, q_call4, q_cnil, q_ccons, q_ccons1, q_ccons2, q_cb', q_cb'1, q_ar0, q_ar1, q_ar2, q_ar3, q_ar4, q_ar5, q_put0, q_put1, q_put2, q_put3, q_put4, q_put5, q_bix0, q_bix1, q_bix2, q_sq, q_sq1, q_sq2, q_sq3, q_sq4, q_snil, q_ret, q_ret1, q_expr, q_expr1, q_ifS, q_ifS1, q_ifS2, q_set, q_set1, q_asg, q_asg1, q_gname, q_gnil, q_gcons, q_gcons1, q_par, q_par1, q_aug, q_aug1, q_aug2, q_rng, q_iseq, q_iseq1, q_sd1, q_sd2, q_kP2, q_fro, q_fro1, q_for, q_for1, q_k0, q_k1, q_w0, q_w1, q_lc, q_lc2, q_n1, q_n0, q_run, bO_b, bO_v, bO_n, finB0, finB1, q_at0, q_at1, q_at2, q_at3, q_bs, q_bn, q_ms, q_mn, q_g0, q_gs, q_s0, q_ss, List.head?_cons, List.tail_cons, List.map_cons, List.map_nil, List.length_cons, List.length_nil, List.cons_append, List.nil_append, List.replicate_succ, List.replicate_zero, Nat.reduceSub, Nat.reduceAdd, Bool.false_xor, Bool.true_xor, Bool.not_true, Bool.not_false, beq_self_eq_true, isBool, isInt, isStr, isTuple, q_callI, if_true, ite_true, List.nodup_nil, List.nodup_cons, List.not_mem_nil, not_false_eq_true, and_true, true_and, and_self, q_fg0, q_fg1, q_fg2, q_fg3, q_fg4, q_fg5, q_fg6, q_lg0, q_lg1, q_lg2, q_lg3, q_lg4, q_lg5, q_sub, q_sub1, q_sub2, q_sub3, q_sub4, q_sub5, q_rng2, q_rng2a, q_aS, q_aS1, q_aS2, q_aS3, q_aS4, q_aS5, q_aS5', q_aS7, ha, hg, e, c0, Jp.enc, sg6, q_app3 hz]
      | fin t =>
        refine ⟨dr, (xa, Jp.fin t), _, [some (.bor (E dr)), some (.val p.enc), some (.val (.int (p.n : Int))), some (.own ((bs ++ [(xa, Jp.fin t)]).map encB)), some (.val (.int (k : Int))), some (.val xa), some (.val (Jp.fin t).enc), some (.val (.int ((p.n - 1 - k : Nat) : Int)))], rfl, ?_, rfl, fun w hw => (List.not_mem_nil hw).elim⟩
        rw [encB_app]
        unfold w_Lforward_1 envW Pg.enc
        simp only [q_var, q_var1, q_var2, q_mv, q_mv1, q_mv2, q_c, q_pr, q_bin, q_bin1, q_bin2, q_dv, q_do, q_tst, q_tst1, q_isN, q_isN0, q_isN1, q_isN2, q_isN3, q_isN4, q_isN5, q_and, q_and1, q_and2, q_or, q_or1, q_or2, q_not, q_not1, q_yes, q_andV, q_andV1, q_andV2, q_orV, q_orV1, q_orV2, q_notV, q_notV1, q_ifE, q_ifE1, q_ifE2, q_nil, q_cons, q_cons1, q_cons2, q_tup, q_tup1, q_lst, q_lst1, q_cb, q_cb1, q_lenV, q_lenV1, q_seq, q_seq1, q_sl, q_st, q_so, q_sb, q_sf, q_mu, q_mu1, q_mu2, q_muS, q_muS1, q_muS2, q_app, q_app1, q_app2, q_pop, q_pop1, q_rev, q_rev1, q_isi, q_isi1, q_inV, q_inV1, q_ixV, q_ixV1, q_ixV2, q_ixV3, q_ixL, q_ixT, q_kV, q_fI, q_addI, q_eqI, q_eqS, q_eqB, q_int, q_tupL, q_tupT, q_listL, q_listT, q_len1, q_len2, q_neg, q_neg1, q_call, q_call2, q_call3, q_call4, q_cnil, q_ccons, q_ccons1, q_ccons2, q_cb', q_cb'1, q_ar0, q_ar1, q_ar2, q_ar3, q_ar4, q_ar5, q_put0, q_put1, q_put2, q_put3, q_put4, q_put5, q_bix0, q_bix1, q_bix2, q_sq, q_sq1, q_sq2, q_sq3, q_sq4, q_snil, q_ret, q_ret1, q_expr, q_expr1, q_ifS, q_ifS1, q_ifS2, q_set, q_set1, q_asg, q_asg1, q_gname, q_gnil, q_gcons, q_gcons1, q_par, q_par1, q_aug, q_aug1, q_aug2, q_rng, q_iseq, q_iseq1, q_sd1, q_sd2, q_kP2, q_fro, q_fro1, q_for, q_for1, q_k0, q_k1, q_w0, q_w1, q_lc, q_lc2, q_n1, q_n0, q_run, bO_b, bO_v, bO_n, finB0, finB1, q_at0, q_at1, q_at2, q_at3, q_bs, q_bn, q_ms, q_mn, q_g0, q_gs, q_s0, q_ss, List.head?_cons, List.tail_cons, List.map_cons, List.map_nil, List.length_cons, List.length_nil, List.cons_append, List.nil_append, List.replicate_succ, List.replicate_zero, Nat.reduceSub, Nat.reduceAdd, Bool.false_xor, Bool.true_xor, Bool.not_true, Bool.not_false, beq_self_eq_true, isBool, isInt, isStr, isTuple, q_callI, if_true, ite_true, List.nodup_nil, List.nodup_cons, List.not_mem_nil, not_false_eq_true, and_true, true_and, and_self, q_fg0, q_fg1, q_fg2, q_fg3, q_fg4, q_fg5, q_fg6, q_lg0, q_lg1, q_lg2, q_lg3, q_lg4, q_lg5, q_sub, q_sub1, q_sub2, q_sub3, q_sub4, q_sub5, q_rng2, q_rng2a, q_aS, q_aS1, q_aS2, q_aS3, q_aS4, q_aS5, q_aS5', q_aS7, ha, hg, e, c0, Jp.enc, sg3, sg4, q_app3 hz]
    exact fin .none
  · have hpos : 0 < p.n - 1 - k := by omega
    have c0 : (((p.n - 1 - k : Nat) : Int) == 0) = false := by rw [beq_eq_false_iff_ne]; omega
    have t1 := take_n dr hpos
    have l1 := tn_lt dr hpos
    have t2 := take_n dr.tail hpos
    have l2 := tn_lt dr.tail hpos
    have e2 : ∀ (t : Nat), (k : Int) + 1 + (t : Int) = ((k + 1 + t : Nat) : Int) := fun t => by omega
    cases xj with
    | goto l =>
      refine ⟨dr.tail, (xa, Jp.goto (k + 1 + tn dr (p.n - 1 - k))), _, [some (.bor (E dr.tail)), some (.val p.enc), some (.val (.int (p.n : Int))), some (.own ((bs ++ [(xa, Jp.goto (k + 1 + tn dr (p.n - 1 - k)))]).map encB)), some (.val (.int (k : Int))), some (.val xa), some (.val (Jp.goto (k + 1 + tn dr (p.n - 1 - k))).enc), some (.val (.int ((p.n - 1 - k : Nat) : Int)))], rfl, ?_, rfl, fun w hw => ?_⟩
      · rw [encB_app]
        unfold w_Lforward_1 envW Pg.enc
        simp only [q_var, q_var1, q_var2, q_mv, q_mv1, q_mv2, q_c, q_pr, q_bin, q_bin1, q_bin2, q_dv, q_do, q_tst, q_tst1, q_isN, q_isN0, q_isN1, q_isN2, q_isN3, q_isN4, q_isN5, q_and, q_and1, q_and2, q_or, q_or1, q_or2, q_not, q_not1, q_yes, q_andV, q_andV1, q_andV2, q_orV, q_orV1, q_orV2, q_notV, q_notV1, q_ifE, q_ifE1, q_ifE2, q_nil, q_cons, q_cons1, q_cons2, q_tup, q_tup1, q_lst, q_lst1, q_cb, q_cb1, q_lenV, q_lenV1, q_seq, q_seq1, q_sl, q_st, q_so, q_sb, q_sf, q_mu, q_mu1, q_mu2, q_muS, q_muS1, q_muS2, q_app, q_app1, q_app2, q_pop, q_pop1, q_rev, q_rev1, q_isi, q_isi1, q_inV, q_inV1, q_ixV, q_ixV1, q_ixV2, q_ixV3, q_ixL, q_ixT, q_kV, q_fI, q_addI, q_eqI, q_eqS, q_eqB, q_int, q_tupL, q_tupT, q_listL, q_listT, q_len1, q_len2, q_neg, q_neg1, q_call, q_call2, q_call3, q_call4, q_cnil, q_ccons, q_ccons1, q_ccons2, q_cb', q_cb'1, q_ar0, q_ar1, q_ar2, q_ar3, q_ar4, q_ar5, q_put0, q_put1, q_put2, q_put3, q_put4, q_put5, q_bix0, q_bix1, q_bix2, q_sq, q_sq1, q_sq2, q_sq3, q_sq4, q_snil, q_ret, q_ret1, q_expr, q_expr1, q_ifS, q_ifS1, q_ifS2, q_set, q_set1, q_asg, q_asg1, q_gname, q_gnil, q_gcons, q_gcons1, q_par, q_par1, q_aug, q_aug1, q_aug2, q_rng, q_iseq, q_iseq1, q_sd1, q_sd2, q_kP2, q_fro, q_fro1, q_for, q_for1, q_k0, q_k1, q_w0, q_w1, q_lc, q_lc2, q_n1, q_n0, q_run, bO_b, bO_v, bO_n, finB0, finB1, q_at0, q_at1, q_at2, q_at3, q_bs, q_bn, q_ms, q_mn, q_g0, q_gs, q_s0, q_ss, List.head?_cons, List.tail_cons, List.map_cons, List.map_nil, List.length_cons, List.length_nil, List.cons_append, List.nil_append, List.replicate_succ, List.replicate_zero, Nat.reduceSub, Nat.reduceAdd, Bool.false_xor, Bool.true_xor, Bool.not_true, Bool.not_false, beq_self_eq_true, isBool, isInt, isStr, isTuple, q_callI, if_true, ite_true, List.nodup_nil, List.nodup_cons, List.not_mem_nil, not_false_eq_true, and_true, true_and, and_self, q_fg0, q_fg1, q_fg2, q_fg3, q_fg4, q_fg5, q_fg6, q_lg0, q_lg1, q_lg2, q_lg3, q_lg4, q_lg5, q_sub, q_sub1, q_sub2, q_sub3, q_sub4, q_sub5, q_rng2, q_rng2a, q_aS, q_aS1, q_aS2, q_aS3, q_aS4, q_aS5, q_aS5', q_aS7, ha, hg, e, c0, Jp.enc, t1, e2, q_app3 hz]
      · have : w = k + 1 + tn dr (p.n - 1 - k) := by simpa [Jp.ways] using hw
        omega
    | test t l m =>
      have hadd : ∀ (a b c d : D), fAdd (.tuple [a, b]) (.tuple [c, d]) = some (.val (.tuple ([a, b] ++ [c, d]))) := fun a b c d => q_addT (sz_le (by simp))
      refine ⟨dr.tail.tail, (xa, Jp.test t (k + 1 + tn dr (p.n - 1 - k)) (k + 1 + tn dr.tail (p.n - 1 - k))), _, [some (.bor (E dr.tail.tail)), some (.val p.enc), some (.val (.int (p.n : Int))), some (.own ((bs ++ [(xa, Jp.test t (k + 1 + tn dr (p.n - 1 - k)) (k + 1 + tn dr.tail (p.n - 1 - k)))]).map encB)), some (.val (.int (k : Int))), some (.val xa), some (.val (Jp.test t (k + 1 + tn dr (p.n - 1 - k)) (k + 1 + tn dr.tail (p.n - 1 - k))).enc), some (.val (.int ((p.n - 1 - k : Nat) : Int)))], rfl, ?_, rfl, fun w hw => ?_⟩
      · rw [encB_app]
        unfold w_Lforward_1 envW Pg.enc
        simp only [q_var, q_var1, q_var2, q_mv, q_mv1, q_mv2, q_c, q_pr, q_bin, q_bin1, q_bin2, q_dv, q_do, q_tst, q_tst1, q_isN, q_isN0, q_isN1, q_isN2, q_isN3, q_isN4, q_isN5, q_and, q_and1, q_and2, q_or, q_or1, q_or2, q_not, q_not1, q_yes, q_andV, q_andV1, q_andV2, q_orV, q_orV1, q_orV2, q_notV, q_notV1, q_ifE, q_ifE1, q_ifE2, q_nil, q_cons, q_cons1, q_cons2, q_tup, q_tup1, q_lst, q_lst1, q_cb, q_cb1, q_lenV, q_lenV1, q_seq, q_seq1, q_sl, q_st, q_so, q_sb, q_sf, q_mu, q_mu1, q_mu2, q_muS, q_muS1, q_muS2, q_app, q_app1, q_app2, q_pop, q_pop1, q_rev, q_rev1, q_isi, q_isi1, q_inV, q_inV1, q_ixV, q_ixV1, q_ixV2, q_ixV3, q_ixL, q_ixT, q_kV, q_fI, q_addI, q_eqI, q_eqS, q_eqB, q_int, q_tupL, q_tupT, q_listL, q_listT, q_len1, q_len2, q_neg, q_neg1, q_call, q_call2, q_call3, q_call4, q_cnil, q_ccons, q_ccons1, q_ccons2, q_cb', q_cb'1, q_ar0, q_ar1, q_ar2, q_ar3, q_ar4, q_ar5, q_put0, q_put1, q_put2, q_put3, q_put4, q_put5, q_bix0, q_bix1, q_bix2, q_sq, q_sq1, q_sq2, q_sq3, q_sq4, q_snil, q_ret, q_ret1, q_expr, q_expr1, q_ifS, q_ifS1, q_ifS2, q_set, q_set1, q_asg, q_asg1, q_gname, q_gnil, q_gcons, q_gcons1, q_par, q_par1, q_aug, q_aug1, q_aug2, q_rng, q_iseq, q_iseq1, q_sd1, q_sd2, q_kP2, q_fro, q_fro1, q_for, q_for1, q_k0, q_k1, q_w0, q_w1, q_lc, q_lc2, q_n1, q_n0, q_run, bO_b, bO_v, bO_n, finB0, finB1, q_at0, q_at1, q_at2, q_at3, q_bs, q_bn, q_ms, q_mn, q_g0, q_gs, q_s0, q_ss, List.head?_cons, List.tail_cons, List.map_cons, List.map_nil, List.length_cons, List.length_nil, List.cons_append, List.nil_append, List.replicate_succ, List.replicate_zero, Nat.reduceSub, Nat.reduceAdd, Bool.false_xor, Bool.true_xor, Bool.not_true, Bool.not_false, beq_self_eq_true, isBool, isInt, isStr, isTuple, q_callI, if_true, ite_true, List.nodup_nil, List.nodup_cons, List.not_mem_nil, not_false_eq_true, and_true, true_and, and_self, q_fg0, q_fg1, q_fg2, q_fg3, q_fg4, q_fg5, q_fg6, q_lg0, q_lg1, q_lg2, q_lg3, q_lg4, q_lg5, q_sub, q_sub1, q_sub2, q_sub3, q_sub4, q_sub5, q_rng2, q_rng2a, q_aS, q_aS1, q_aS2, q_aS3, q_aS4, q_aS5, q_aS5', q_aS7, ha, hg, e, c0, Jp.enc, sg2, t1, t2, e2, sl_2, hadd, q_app3 hz]
      · have : w = k + 1 + tn dr (p.n - 1 - k) ∨ w = k + 1 + tn dr.tail (p.n - 1 - k) := by simpa [Jp.ways] using hw
        omega
    | fin t =>
      refine ⟨dr, (xa, Jp.fin t), _, [some (.bor (E dr)), some (.val p.enc), some (.val (.int (p.n : Int))), some (.own ((bs ++ [(xa, Jp.fin t)]).map encB)), some (.val (.int (k : Int))), some (.val xa), some (.val (Jp.fin t).enc), some (.val (.int ((p.n - 1 - k : Nat) : Int)))], rfl, ?_, rfl, fun w hw => (List.not_mem_nil hw).elim⟩
      rw [encB_app]
      unfold w_Lforward_1 envW Pg.enc
      simp only [q_var, q_var1, q_var2, q_mv, q_mv1, q_mv2, q_c, q_pr, q_bin, q_bin1, q_bin2, q_dv, q_do, q_tst, q_tst1, q_isN, q_isN0, q_isN1, q_isN2, q_isN3, q_isN4, q_isN5, q_and, q_and1, q_and2, q_or, q_or1, q_or2, q_not, q_not1, q_yes, q_andV, q_andV1, q_andV2, q_orV, q_orV1, q_orV2, q_notV, q_notV1, q_ifE, q_ifE1, q_ifE2, q_nil, q_cons, q_cons1, q_cons2, q_tup, q_tup1, q_lst, q_lst1, q_cb, q_cb1, q_lenV, q_lenV1, q_seq, q_seq1, q_sl, q_st, q_so, q_sb, q_sf, q_mu, q_mu1, q_mu2, q_muS, q_muS1, q_muS2, q_app, q_app1, q_app2, q_pop, q_pop1, q_rev, q_rev1, q_isi, q_isi1, q_inV, q_inV1, q_ixV, q_ixV1, q_ixV2, q_ixV3, q_ixL, q_ixT, q_kV, q_fI, q_addI, q_eqI, q_eqS, q_eqB, q_int, q_tupL, q_tupT, q_listL, q_listT, q_len1, q_len2, q_neg, q_neg1, q_call, q_call2, q_call3, q_call4, q_cnil, q_ccons, q_ccons1, q_ccons2, q_cb', q_cb'1, q_ar0, q_ar1, q_ar2, q_ar3, q_ar4, q_ar5, q_put0, q_put1, q_put2, q_put3, q_put4, q_put5, q_bix0, q_bix1, q_bix2, q_sq, q_sq1, q_sq2, q_sq3, q_sq4, q_snil, q_ret, q_ret1, q_expr, q_expr1, q_ifS, q_ifS1, q_ifS2, q_set, q_set1, q_asg, q_asg1, q_gname, q_gnil, q_gcons, q_gcons1, q_par, q_par1, q_aug, q_aug1, q_aug2, q_rng, q_iseq, q_iseq1, q_sd1, q_sd2, q_kP2, q_fro, q_fro1, q_for, q_for1, q_k0, q_k1, q_w0, q_w1, q_lc, q_lc2, q_n1, q_n0, q_run, bO_b, bO_v, bO_n, finB0, finB1, q_at0, q_at1, q_at2, q_at3, q_bs, q_bn, q_ms, q_mn, q_g0, q_gs, q_s0, q_ss, List.head?_cons, List.tail_cons, List.map_cons, List.map_nil, List.length_cons, List.length_nil, List.cons_append, List.nil_append, List.replicate_succ, List.replicate_zero, Nat.reduceSub, Nat.reduceAdd, Bool.false_xor, Bool.true_xor, Bool.not_true, Bool.not_false, beq_self_eq_true, isBool, isInt, isStr, isTuple, q_callI, if_true, ite_true, List.nodup_nil, List.nodup_cons, List.not_mem_nil, not_false_eq_true, and_true, true_and, and_self, q_fg0, q_fg1, q_fg2, q_fg3, q_fg4, q_fg5, q_fg6, q_lg0, q_lg1, q_lg2, q_lg3, q_lg4, q_lg5, q_sub, q_sub1, q_sub2, q_sub3, q_sub4, q_sub5, q_rng2, q_rng2a, q_aS, q_aS1, q_aS2, q_aS3, q_aS4, q_aS5, q_aS5', q_aS7, ha, hg, e, c0, Jp.enc, sg3, sg4, q_app3 hz]
theorem forward_eq (p : Pg) (wf : p.Wf) (dr : List Int) : ∃ (p' : Pg) (dr' : List Int), f_Lforward [.bor (E dr), .val p.enc] = some (.val (Pg.enc p'), [some (.bor (E dr')), none]) ∧ p'.Wf := by
  have hn := wf.small
  obtain ⟨ρ', H1, dr', bs, hl, hw, hρ⟩ := for_inv (g := rgName 4) (b := w_Lforward_1) (ks := [4, 5, 6, 7]) (ds := rng 0 p.n) (ρ := envW p dr [])
    (fun i ρ => ∃ dr' bs, bs.length = i ∧ (∀ x ∈ bs, ∀ w ∈ x.2.ways, w < p.n) ∧ ρ = envW p dr' bs) 0 ⟨dr, [], rfl, fun x h => (List.not_mem_nil h).elim, rfl⟩ fun i d ρ hd h => by
      obtain ⟨dr1, bs, hl, hw, rfl⟩ := h
      obtain ⟨hi, rfl⟩ := rng_get hd
      rw [show (0 : Int) + (i : Int) = (i : Int) from Int.zero_add _]
      obtain ⟨dr2, x, ρ1, ρ2, h1, h2, h3, h4⟩ := fwd_w p wf dr1 bs (by omega) i hi
      refine ⟨ρ1, ρ2, h1, h2, dr2, bs ++ [x], by rw [List.length_append, hl]; rfl, fun y hy => ?_, h3⟩
      rcases List.mem_append.mp hy with hy | hy
      · exact hw y hy
      · have : y = x := by simpa using hy
        rw [this]
        exact h4
  rw [hρ] at H1
  have hlen : bs.length = p.n := by
    have : (rng 0 p.n).length = p.n := by rw [rng0, List.length_map, List.length_range]
    omega
  have e1 : ((p.bs.map encB).length : Int) = (p.n : Int) := by rw [len_enc]
  have hp := wf.pos
  refine ⟨⟨p.many, bs⟩, dr', ?_, wf_of (p := ⟨p.many, bs⟩) (show 0 < bs.length by omega) (show bs.length ≤ 6 by omega) (fun x hx w hw2 => show w < bs.length by rw [hlen]; exact hw x hx w hw2)⟩
  unfold f_Lforward b_Lforward
  unfold envW at H1
  rw [List.map_nil] at H1
  unfold Pg.enc at H1 ⊢
  simp only [q_var, q_var1, q_var2, q_mv, q_mv1, q_mv2, q_c, q_pr, q_bin, q_bin1, q_bin2, q_dv, q_do, q_tst, q_tst1, q_isN, q_isN0, q_isN1, q_isN2, q_isN3, q_isN4, q_isN5, q_and, q_and1, q_and2, q_or, q_or1, q_or2, q_not, q_not1, q_yes, q_andV, q_andV1, q_andV2, q_orV, q_orV1, q_orV2, q_notV, q_notV1, q_ifE, q_ifE1, q_ifE2, q_nil, q_cons, q_cons1, q_cons2, q_tup, q_tup1, q_lst, q_lst1, q_cb, q_cb1, q_lenV, q_lenV1, q_seq, q_seq1, q_sl, q_st, q_so, q_sb, q_sf, q_mu, q_mu1, q_mu2, q_muS, q_muS1, q_muS2, q_app, q_app1, q_app2, q_pop, q_pop1, q_rev, q_rev1, q_isi, q_isi1, q_inV, q_inV1, q_ixV, q_ixV1, q_ixV2, q_ixV3, q_ixL, q_ixT, q_kV, q_fI, q_addI, q_eqI, q_eqS, q_eqB, q_int, q_tupL, q_tupT, q_listL, q_listT, q_len1, q_len2, q_neg, q_neg1, q_call, q_call2, q_call3, q_call4, q_cnil, q_ccons, q_ccons1, q_ccons2, q_cb', q_cb'1, q_ar0, q_ar1, q_ar2, q_ar3, q_ar4, q_ar5, q_put0, q_put1, q_put2, q_put3, q_put4, q_put5, q_bix0, q_bix1, q_bix2, q_sq, q_sq1, q_sq2, q_sq3, q_sq4, q_snil, q_ret, q_ret1, q_expr, q_expr1, q_ifS, q_ifS1, q_ifS2, q_set, q_set1, q_asg, q_asg1, q_gname, q_gnil, q_gcons, q_gcons1, q_par, q_par1, q_aug, q_aug1, q_aug2, q_rng, q_iseq, q_iseq1, q_sd1, q_sd2, q_kP2, q_fro, q_fro1, q_for, q_for1, q_k0, q_k1, q_w0, q_w1, q_lc, q_lc2, q_n1, q_n0, q_run, bO_b, bO_v, bO_n, finB0, finB1, q_at0, q_at1, q_at2, q_at3, q_bs, q_bn, q_ms, q_mn, q_g0, q_gs, q_s0, q_ss, List.head?_cons, List.tail_cons, List.map_cons, List.map_nil, List.length_cons, List.length_nil, List.cons_append, List.nil_append, List.replicate_succ, List.replicate_zero, Nat.reduceSub, Nat.reduceAdd, Bool.false_xor, Bool.true_xor, Bool.not_true, Bool.not_false, beq_self_eq_true, isBool, isInt, isStr, isTuple, q_callI, if_true, ite_true, List.nodup_nil, List.nodup_cons, List.not_mem_nil, not_false_eq_true, and_true, true_and, and_self, q_fg0, q_fg1, q_fg2, q_fg3, q_fg4, q_fg5, q_fg6, q_lg0, q_lg1, q_lg2, q_lg3, q_lg4, q_lg5, q_sub, q_sub1, q_sub2, q_sub3, q_sub4, q_sub5, q_rng2, q_rng2a, q_aS, q_aS1, q_aS2, q_aS3, q_aS4, q_aS5, q_aS5', q_aS7, e1, q_rng1 (n62 (show p.n ≤ 1000 by omega)), Int.toNat_natCast, H1]
end K50

set_option Elab.async false
set_option linter.all false
set_option maxRecDepth 100000
set_option maxHeartbeats 4000000
namespace K50
open PySem L2 DL
/-! ### _law_draws -/
def encI (l : List Int) : List D := l.map PyData.int
theorem encI_len (l : List Int) : (encI l).length = l.length := by simp [encI]
theorem at_encI {l : List Int} {k : Nat} (h : k < l.length) : atI (encI l) (k : Int) = some (.int (l[k])) := at_map (List.getElem?_eq_getElem h)
theorem encI_app (a b : List Int) : encI (a ++ b) = encI a ++ encI b := List.map_append
theorem encI_set (l : List Int) (k : Nat) (x : Int) : encI (l.set k x) = (encI l).set k (.int x) := List.map_set
theorem encI_1 (x : Int) : encI [x] = [.int x] := Eq.trans rfl rfl
theorem m1000 (x : Int) : fMod (.int x) (.int 1000) = some (.val (.int (x % 1000))) := q_mod (by decide)
theorem d1000 (x : Int) : fDiv (.int x) (.int 1000) = some (.val (.int (x / 1000))) := q_fIc ⟨by decide, by decide⟩
theorem ml1 (x : Int) : fMul (.int x) (.int 48271) = some (.val (.int (x * 48271))) := q_fIc (.inr ⟨by decide, by decide⟩)
theorem ml2 (x : Int) : fMul (.int x) (.int 69621) = some (.val (.int (x * 69621))) := q_fIc (.inr ⟨by decide, by decide⟩)
theorem ml3 (x : Int) : fMul (.int 3) (.int x) = some (.val (.int (3 * x))) := q_fIc (.inl ⟨by decide, by decide⟩)
theorem mm1 (x : Int) : fMod (.int x) (.int 2147483647) = some (.val (.int (x % 2147483647))) := q_mod (by decide)
theorem mm2 (x : Int) : fMod (.int x) (.int 1000003) = some (.val (.int (x % 1000003))) := q_mod (by decide)
theorem ml4 (y : Int) : ∃ x : Int, y % 2147483647 = x ∧ fMul (.int x) (.int x) = some (.val (.int (x * x))) := by
  have h1 := Int.emod_nonneg y (show (2147483647 : Int) ≠ 0 by omega)
  have h2 := Int.emod_lt_of_pos y (show (0 : Int) < 2147483647 by omega)
  exact ⟨_, rfl, q_fIc (.inl ⟨by omega, by omega⟩)⟩
theorem p18 : ∃ c : Int, fPow (.int 10) (.int 18) = some (.val (.int c)) := ⟨_, q_fIc ⟨by decide, by decide, by decide⟩⟩
theorem p60 : ∃ c : Int, fPow (.int 10) (.int 60) = some (.val (.int c)) ∧ 0 < c := ⟨_, q_fIc ⟨by decide, by decide, by decide⟩, by decide⟩
def envY (ns cs rest draws : List Int) : En := [some (.fro (encI ns)), some (.val (.int 300)), some (.val (.list (encI cs))), some (.own (encI rest)), some (.own (encI draws)), none, none, none, none]
theorem draws_w (ns cs rest draws : List Int) (h0 : 0 < cs.length) (hr : rest.length = cs.length) (hd : draws.length ≤ 1000) (k : Nat) :
    ∃ rest' x ρ1 ρ2, rgName 5 (.int (k : Int)) (envY ns cs rest draws) = some ρ1 ∧ w_Ldraws_2 ρ1 = some (.nx ρ2) ∧ killE [5, 6, 7] ρ2 = envY ns cs rest' (draws ++ [x]) ∧ rest'.length = cs.length := by
  have hz : (encI draws).length < sizeLine := by rw [encI_len]; exact sz_lt (by omega)
  have hm : k % cs.length < cs.length := Nat.mod_lt _ h0
  have e1 : fMod (.int (k : Int)) (.int ((encI cs).length : Int)) = some (.val (.int ((k % cs.length : Nat) : Int))) := by
    rw [encI_len, q_mod (by omega)]
    rfl
  have a1 := at_encI hm
  have a2 := at_encI (l := rest) (k := k % cs.length) (by omega)
  have hix : ixN (encI rest).length ((k % cs.length : Nat) : Int) = some (k % cs.length) := ix_nat (by rw [encI_len]; omega)
  generalize hA : cs[k % cs.length] = A at a1
  generalize hB : rest[k % cs.length]'(by omega) = B at a2
  obtain ⟨c, hc⟩ := p18
  obtain ⟨x, hx, hxx⟩ := ml4 (A * 48271 + (k : Int) * 69621 + 11)
  have low : ∀ (b : Bool), ∃ y, (rsSeq (rsSet 7 (rdBin fMod (rdCB fInt (raCons (rdBin fAdd (rdBin fAdd (rdBin fMul (rdIxV 2 (rdVar 6)) (rdC (.int 48271))) (rdBin fMul (rdVar 5) (rdC (.int 69621)))) (rdC (.int 11))) (raNil))) (rdC (.int 2147483647))))
      (rsExpr (rdApp 4 (rdBin fMod (rdCB fInt (raCons (rdBin fAdd (rdBin fAdd (rdBin fMul (rdVar 7) (rdVar 7)) (rdBin fMul (rdC (.int 3)) (rdVar 7))) (rdVar 5)) (raNil))) (rdC (.int 1000003)))))) [some (.fro (encI ns)), some (.val (.int 300)), some (.val (.list (encI cs))), some (.own (encI rest)), some (.own (encI draws)), some (.val (.int (k : Int))), some (.val (.int ((k % cs.length : Nat) : Int))), none, none]
      = some (.nx [some (.fro (encI ns)), some (.val (.int 300)), some (.val (.list (encI cs))), some (.own (encI rest)), some (.own (encI (draws ++ [y]))), some (.val (.int (k : Int))), some (.val (.int ((k % cs.length : Nat) : Int))), some (.val (.int x)), none]) := by
    intro _
    refine ⟨(x * x + 3 * x + (k : Int)) % 1000003, ?_⟩
    rw [encI_app, encI_1]
    simp only [q_var, q_var1, q_var2, q_mv, q_mv1, q_mv2, q_c, q_pr, q_bin, q_bin1, q_bin2, q_dv, q_do, q_tst, q_tst1, q_isN, q_isN0, q_isN1, q_isN2, q_isN3, q_isN4, q_isN5, q_and, q_and1, q_and2, q_or, q_or1, q_or2, q_not, q_not1, q_yes, q_andV, q_andV1, q_andV2, q_orV, q_orV1, q_orV2, q_notV, q_notV1, q_ifE, q_ifE1, q_ifE2, q_nil, q_cons, q_cons1, q_cons2, q_tup, q_tup1, q_lst, q_lst1, q_cb, q_cb1, q_lenV, q_lenV1, q_seq, q_seq1, q_sl, q_st, q_so, q_sb, q_sf, q_mu, q_mu1, q_mu2, q_muS, q_muS1, q_muS2, q_app, q_app1, q_app2, q_pop, q_pop1, q_rev, q_rev1, q_isi, q_isi1, q_inV, q_inV1, q_ixV, q_ixV1, q_ixV2, q_ixV3, q_ixL, q_ixT, q_kV, q_fI, q_addI, q_eqI, q_eqS, q_eqB, q_int, q_tupL, q_tupT, q_listL, q_listT, q_len1, q_len2, q_neg, q_neg1, q_call, q_call2, q_call3, q_call4, q_cnil, q_ccons, q_ccons1, q_ccons2, q_cb', q_cb'1, q_ar0, q_ar1, q_ar2, q_ar3, q_ar4, q_ar5, q_put0, q_put1, q_put2, q_put3, q_put4, q_put5, q_bix0, q_bix1, q_bix2, q_sq, q_sq1, q_sq2, q_sq3, q_sq4, q_snil, q_ret, q_ret1, q_expr, q_expr1, q_ifS, q_ifS1, q_ifS2, q_set, q_set1, q_asg, q_asg1, q_gname, q_gnil, q_gcons, q_gcons1, q_par, q_par1, q_aug, q_aug1, q_aug2, q_rng, q_iseq, q_iseq1, q_sd1, q_sd2, q_kP2, q_fro, q_fro1, q_for, q_for1, q_k0, q_k1, q_w0, q_w1, q_lc, q_lc2, q_n1, q_n0, q_run, bO_b, bO_v, bO_n, finB0, finB1, q_at0, q_at1, q_at2, q_at3, q_bs, q_bn, q_ms, q_mn, q_g0, q_gs, q_s0, q_ss, List.head?_cons, List.tail_cons, List.map_cons, List.map_nil, List.length_cons, List.length_nil, List.cons_append, List.nil_append, List.replicate_succ, List.replicate_zero, Nat.reduceSub, Nat.reduceAdd, Bool.false_xor, Bool.true_xor, Bool.not_true, Bool.not_false, beq_self_eq_true, isBool, isInt, isStr, isTuple, q_callI, if_true, ite_true, List.nodup_nil, List.nodup_cons, List.not_mem_nil, not_false_eq_true, and_true, true_and, and_self, q_fg0, q_fg1, q_fg2, q_fg3, q_fg4, q_fg5, q_fg6, q_lg0, q_lg1, q_lg2, q_lg3, q_lg4, q_lg5, q_sub, q_sub1, q_sub2, q_sub3, q_sub4, q_sub5, q_rng2, q_rng2a, q_aS, q_aS1, q_aS2, q_aS3, q_aS4, q_aS5, q_aS5', q_aS7, a1, ml1, ml2, mm1, hx, hxx, ml3, mm2, q_app3 hz]
  obtain ⟨y, low⟩ := low true
  cases c1 : decide (c ≤ A) with
  | true =>
    cases c2 : decide ((0 : Int) < B) with
    | true =>
      refine ⟨rest.set (k % cs.length) (B / 1000), B % 1000, _, [some (.fro (encI ns)), some (.val (.int 300)), some (.val (.list (encI cs))), some (.own (encI (rest.set (k % cs.length) (B / 1000)))), some (.own (encI (draws ++ [B % 1000]))), some (.val (.int (k : Int))), some (.val (.int ((k % cs.length : Nat) : Int))), none, none], rfl, ?_, rfl, by rw [List.length_set]; exact hr⟩
      rw [encI_app, encI_1, encI_set]
      unfold w_Ldraws_2 envY
      simp only [q_var, q_var1, q_var2, q_mv, q_mv1, q_mv2, q_c, q_pr, q_bin, q_bin1, q_bin2, q_dv, q_do, q_tst, q_tst1, q_isN, q_isN0, q_isN1, q_isN2, q_isN3, q_isN4, q_isN5, q_and, q_and1, q_and2, q_or, q_or1, q_or2, q_not, q_not1, q_yes, q_andV, q_andV1, q_andV2, q_orV, q_orV1, q_orV2, q_notV, q_notV1, q_ifE, q_ifE1, q_ifE2, q_nil, q_cons, q_cons1, q_cons2, q_tup, q_tup1, q_lst, q_lst1, q_cb, q_cb1, q_lenV, q_lenV1, q_seq, q_seq1, q_sl, q_st, q_so, q_sb, q_sf, q_mu, q_mu1, q_mu2, q_muS, q_muS1, q_muS2, q_app, q_app1, q_app2, q_pop, q_pop1, q_rev, q_rev1, q_isi, q_isi1, q_inV, q_inV1, q_ixV, q_ixV1, q_ixV2, q_ixV3, q_ixL, q_ixT, q_kV, q_fI, q_addI, q_eqI, q_eqS, q_eqB, q_int, q_tupL, q_tupT, q_listL, q_listT, q_len1, q_len2, q_neg, q_neg1, q_call, q_call2, q_call3, q_call4, q_cnil, q_ccons, q_ccons1, q_ccons2, q_cb', q_cb'1, q_ar0, q_ar1, q_ar2, q_ar3, q_ar4, q_ar5, q_put0, q_put1, q_put2, q_put3, q_put4, q_put5, q_bix0, q_bix1, q_bix2, q_sq, q_sq1, q_sq2, q_sq3, q_sq4, q_snil, q_ret, q_ret1, q_expr, q_expr1, q_ifS, q_ifS1, q_ifS2, q_set, q_set1, q_asg, q_asg1, q_gname, q_gnil, q_gcons, q_gcons1, q_par, q_par1, q_aug, q_aug1, q_aug2, q_rng, q_iseq, q_iseq1, q_sd1, q_sd2, q_kP2, q_fro, q_fro1, q_for, q_for1, q_k0, q_k1, q_w0, q_w1, q_lc, q_lc2, q_n1, q_n0, q_run, bO_b, bO_v, bO_n, finB0, finB1, q_at0, q_at1, q_at2, q_at3, q_bs, q_bn, q_ms, q_mn, q_g0, q_gs, q_s0, q_ss, List.head?_cons, List.tail_cons, List.map_cons, List.map_nil, List.length_cons, List.length_nil, List.cons_append, List.nil_append, List.replicate_succ, List.replicate_zero, Nat.reduceSub, Nat.reduceAdd, Bool.false_xor, Bool.true_xor, Bool.not_true, Bool.not_false, beq_self_eq_true, isBool, isInt, isStr, isTuple, q_callI, if_true, ite_true, List.nodup_nil, List.nodup_cons, List.not_mem_nil, not_false_eq_true, and_true, true_and, and_self, q_fg0, q_fg1, q_fg2, q_fg3, q_fg4, q_fg5, q_fg6, q_lg0, q_lg1, q_lg2, q_lg3, q_lg4, q_lg5, q_sub, q_sub1, q_sub2, q_sub3, q_sub4, q_sub5, q_rng2, q_rng2a, q_aS, q_aS1, q_aS2, q_aS3, q_aS4, q_aS5, q_aS5', q_aS7, e1, a1, a2, hc, c1, c2, m1000, d1000, hix, q_app3 hz]
    | false =>
      refine ⟨rest, y, _, [some (.fro (encI ns)), some (.val (.int 300)), some (.val (.list (encI cs))), some (.own (encI rest)), some (.own (encI (draws ++ [y]))), some (.val (.int (k : Int))), some (.val (.int ((k % cs.length : Nat) : Int))), some (.val (.int x)), none], rfl, ?_, rfl, hr⟩
      unfold w_Ldraws_2 envY
      rw [q_sq]
      have s1 : rsSet 6 (rdBin fMod (rdVar 5) (rdLenV 2)) [some (.fro (encI ns)), some (.val (.int 300)), some (.val (.list (encI cs))), some (.own (encI rest)), some (.own (encI draws)), some (.val (.int (k : Int))), none, none, none] = some (.nx [some (.fro (encI ns)), some (.val (.int 300)), some (.val (.list (encI cs))), some (.own (encI rest)), some (.own (encI draws)), some (.val (.int (k : Int))), some (.val (.int ((k % cs.length : Nat) : Int))), none, none]) := by
        simp only [q_var, q_var1, q_var2, q_mv, q_mv1, q_mv2, q_c, q_pr, q_bin, q_bin1, q_bin2, q_dv, q_do, q_tst, q_tst1, q_isN, q_isN0, q_isN1, q_isN2, q_isN3, q_isN4, q_isN5, q_and, q_and1, q_and2, q_or, q_or1, q_or2, q_not, q_not1, q_yes, q_andV, q_andV1, q_andV2, q_orV, q_orV1, q_orV2, q_notV, q_notV1, q_ifE, q_ifE1, q_ifE2, q_nil, q_cons, q_cons1, q_cons2, q_tup, q_tup1, q_lst, q_lst1, q_cb, q_cb1, q_lenV, q_lenV1, q_seq, q_seq1, q_sl, q_st, q_so, q_sb, q_sf, q_mu, q_mu1, q_mu2, q_muS, q_muS1, q_muS2, q_app, q_app1, q_app2, q_pop, q_pop1, q_rev, q_rev1, q_isi, q_isi1, q_inV, q_inV1, q_ixV, q_ixV1, q_ixV2, q_ixV3, q_ixL, q_ixT, q_kV, q_fI, q_addI, q_eqI, q_eqS, q_eqB, q_int, q_tupL, q_tupT, q_listL, q_listT, q_len1, q_len2, q_neg, q_neg1, q_call, q_call2, q_call3, q_call4, q_cnil, q_ccons, q_ccons1, q_ccons2, q_cb', q_cb'1, q_ar0, q_ar1, q_ar2, q_ar3, q_ar4, q_ar5, q_put0, q_put1, q_put2, q_put3, q_put4, q_put5, q_bix0, q_bix1, q_bix2, q_sq, q_sq1, q_sq2, q_sq3, q_sq4, q_snil, q_ret, q_ret1, q_expr, q_expr1, q_ifS, q_ifS1, q_ifS2, q_set, q_set1, q_asg, q_asg1, q_gname, q_gnil, q_gcons, q_gcons1, q_par, q_par1, q_aug, q_aug1, q_aug2, q_rng, q_iseq, q_iseq1, q_sd1, q_sd2, q_kP2, q_fro, q_fro1, q_for, q_for1, q_k0, q_k1, q_w0, q_w1, q_lc, q_lc2, q_n1, q_n0, q_run, bO_b, bO_v, bO_n, finB0, finB1, q_at0, q_at1, q_at2, q_at3, q_bs, q_bn, q_ms, q_mn, q_g0, q_gs, q_s0, q_ss, List.head?_cons, List.tail_cons, List.map_cons, List.map_nil, List.length_cons, List.length_nil, List.cons_append, List.nil_append, List.replicate_succ, List.replicate_zero, Nat.reduceSub, Nat.reduceAdd, Bool.false_xor, Bool.true_xor, Bool.not_true, Bool.not_false, beq_self_eq_true, isBool, isInt, isStr, isTuple, q_callI, if_true, ite_true, List.nodup_nil, List.nodup_cons, List.not_mem_nil, not_false_eq_true, and_true, true_and, and_self, q_fg0, q_fg1, q_fg2, q_fg3, q_fg4, q_fg5, q_fg6, q_lg0, q_lg1, q_lg2, q_lg3, q_lg4, q_lg5, q_sub, q_sub1, q_sub2, q_sub3, q_sub4, q_sub5, q_rng2, q_rng2a, q_aS, q_aS1, q_aS2, q_aS3, q_aS4, q_aS5, q_aS5', q_aS7, e1]
      show (rsSet 6 (rdBin fMod (rdVar 5) (rdLenV 2)) [some (.fro (encI ns)), some (.val (.int 300)), some (.val (.list (encI cs))), some (.own (encI rest)), some (.own (encI draws)), some (.val (.int (k : Int))), none, none, none]).bind _ = _
      rw [s1, q_bs, q_sq1, q_ifS, ← low]
      have s2 : (rtAnd (rdTst (rdBin fGe (rdIxV 2 (rdVar 6)) (rdBin fPow (rdC (.int 10)) (rdC (.int 18))))) (rdTst (rdBin fGt (rdIxV 3 (rdVar 6)) (rdC (.int 0))))) [some (.fro (encI ns)), some (.val (.int 300)), some (.val (.list (encI cs))), some (.own (encI rest)), some (.own (encI draws)), some (.val (.int (k : Int))), some (.val (.int ((k % cs.length : Nat) : Int))), none, none] = some (false, [some (.fro (encI ns)), some (.val (.int 300)), some (.val (.list (encI cs))), some (.own (encI rest)), some (.own (encI draws)), some (.val (.int (k : Int))), some (.val (.int ((k % cs.length : Nat) : Int))), none, none]) := by
        simp only [q_var, q_var1, q_var2, q_mv, q_mv1, q_mv2, q_c, q_pr, q_bin, q_bin1, q_bin2, q_dv, q_do, q_tst, q_tst1, q_isN, q_isN0, q_isN1, q_isN2, q_isN3, q_isN4, q_isN5, q_and, q_and1, q_and2, q_or, q_or1, q_or2, q_not, q_not1, q_yes, q_andV, q_andV1, q_andV2, q_orV, q_orV1, q_orV2, q_notV, q_notV1, q_ifE, q_ifE1, q_ifE2, q_nil, q_cons, q_cons1, q_cons2, q_tup, q_tup1, q_lst, q_lst1, q_cb, q_cb1, q_lenV, q_lenV1, q_seq, q_seq1, q_sl, q_st, q_so, q_sb, q_sf, q_mu, q_mu1, q_mu2, q_muS, q_muS1, q_muS2, q_app, q_app1, q_app2, q_pop, q_pop1, q_rev, q_rev1, q_isi, q_isi1, q_inV, q_inV1, q_ixV, q_ixV1, q_ixV2, q_ixV3, q_ixL, q_ixT, q_kV, q_fI, q_addI, q_eqI, q_eqS, q_eqB, q_int, q_tupL, q_tupT, q_listL, q_listT, q_len1, q_len2, q_neg, q_neg1, q_call, q_call2, q_call3, q_call4, q_cnil, q_ccons, q_ccons1, q_ccons2, q_cb', q_cb'1, q_ar0, q_ar1, q_ar2, q_ar3, q_ar4, q_ar5, q_put0, q_put1, q_put2, q_put3, q_put4, q_put5, q_bix0, q_bix1, q_bix2, q_sq, q_sq1, q_sq2, q_sq3, q_sq4, q_snil, q_ret, q_ret1, q_expr, q_expr1, q_ifS, q_ifS1, q_ifS2, q_set, q_set1, q_asg, q_asg1, q_gname, q_gnil, q_gcons, q_gcons1, q_par, q_par1, q_aug, q_aug1, q_aug2, q_rng, q_iseq, q_iseq1, q_sd1, q_sd2, q_kP2, q_fro, q_fro1, q_for, q_for1, q_k0, q_k1, q_w0, q_w1, q_lc, q_lc2, q_n1, q_n0, q_run, bO_b, bO_v, bO_n, finB0, finB1, q_at0, q_at1, q_at2, q_at3, q_bs, q_bn, q_ms, q_mn, q_g0, q_gs, q_s0, q_ss, List.head?_cons, List.tail_cons, List.map_cons, List.map_nil, List.length_cons, List.length_nil, List.cons_append, List.nil_append, List.replicate_succ, List.replicate_zero, Nat.reduceSub, Nat.reduceAdd, Bool.false_xor, Bool.true_xor, Bool.not_true, Bool.not_false, beq_self_eq_true, isBool, isInt, isStr, isTuple, q_callI, if_true, ite_true, List.nodup_nil, List.nodup_cons, List.not_mem_nil, not_false_eq_true, and_true, true_and, and_self, q_fg0, q_fg1, q_fg2, q_fg3, q_fg4, q_fg5, q_fg6, q_lg0, q_lg1, q_lg2, q_lg3, q_lg4, q_lg5, q_sub, q_sub1, q_sub2, q_sub3, q_sub4, q_sub5, q_rng2, q_rng2a, q_aS, q_aS1, q_aS2, q_aS3, q_aS4, q_aS5, q_aS5', q_aS7, a1, a2, hc, c1, c2]
      rw [s2, q_bs, q_ifS2]
  | false =>
    refine ⟨rest, y, _, [some (.fro (encI ns)), some (.val (.int 300)), some (.val (.list (encI cs))), some (.own (encI rest)), some (.own (encI (draws ++ [y]))), some (.val (.int (k : Int))), some (.val (.int ((k % cs.length : Nat) : Int))), some (.val (.int x)), none], rfl, ?_, rfl, hr⟩
    unfold w_Ldraws_2 envY
    rw [q_sq]
    have s1 : rsSet 6 (rdBin fMod (rdVar 5) (rdLenV 2)) [some (.fro (encI ns)), some (.val (.int 300)), some (.val (.list (encI cs))), some (.own (encI rest)), some (.own (encI draws)), some (.val (.int (k : Int))), none, none, none] = some (.nx [some (.fro (encI ns)), some (.val (.int 300)), some (.val (.list (encI cs))), some (.own (encI rest)), some (.own (encI draws)), some (.val (.int (k : Int))), some (.val (.int ((k % cs.length : Nat) : Int))), none, none]) := by
      simp only [q_var, q_var1, q_var2, q_mv, q_mv1, q_mv2, q_c, q_pr, q_bin, q_bin1, q_bin2, q_dv, q_do, q_tst, q_tst1, q_isN, q_isN0, q_isN1, q_isN2, q_isN3, q_isN4, q_isN5, q_and, q_and1, q_and2, q_or, q_or1, q_or2, q_not, q_not1, q_yes, q_andV, q_andV1, q_andV2, q_orV, q_orV1, q_orV2, q_notV, q_notV1, q_ifE, q_ifE1, q_ifE2, q_nil, q_cons, q_cons1, q_cons2, q_tup, q_tup1, q_lst, q_lst1, q_cb, q_cb1, q_lenV, q_lenV1, q_seq, q_seq1, q_sl, q_st, q_so, q_sb, q_sf, q_mu, q_mu1, q_mu2, q_muS, q_muS1, q_muS2, q_app, q_app1, q_app2, q_pop, q_pop1, q_rev, q_rev1, q_isi, q_isi1, q_inV, q_inV1, q_ixV, q_ixV1, q_ixV2, q_ixV3, q_ixL, q_ixT, q_kV, q_fI, q_addI, q_eqI, q_eqS, q_eqB, q_int, q_tupL, q_tupT, q_listL, q_listT, q_len1, q_len2, q_neg, q_neg1, q_call, q_call2, q_call3, q_call4, q_cnil, q_ccons, q_ccons1, q_ccons2, q_cb', q_cb'1, q_ar0, q_ar1, q_ar2, q_ar3, q_ar4, q_ar5, q_put0, q_put1, q_put2, q_put3, q_put4, q_put5, q_bix0, q_bix1, q_bix2, q_sq, q_sq1, q_sq2, q_sq3, q_sq4, q_snil, q_ret, q_ret1, q_expr, q_expr1, q_ifS, q_ifS1, q_ifS2, q_set, q_set1, q_asg, q_asg1, q_gname, q_gnil, q_gcons, q_gcons1, q_par, q_par1, q_aug, q_aug1, q_aug2, q_rng, q_iseq, q_iseq1, q_sd1, q_sd2, q_kP2, q_fro, q_fro1, q_for, q_for1, q_k0, q_k1, q_w0, q_w1, q_lc, q_lc2, q_n1, q_n0, q_run, bO_b, bO_v, bO_n, finB0, finB1, q_at0, q_at1, q_at2, q_at3, q_bs, q_bn, q_ms, q_mn, q_g0, q_gs, q_s0, q_ss, List.head?_cons, List.tail_cons, List.map_cons, List.map_nil, List.length_cons, List.length_nil, List.cons_append, List.nil_append, List.replicate_succ, List.replicate_zero, Nat.reduceSub, Nat.reduceAdd, Bool.false_xor, Bool.true_xor, Bool.not_true, Bool.not_false, beq_self_eq_true, isBool, isInt, isStr, isTuple, q_callI, if_true, ite_true, List.nodup_nil, List.nodup_cons, List.not_mem_nil, not_false_eq_true, and_true, true_and, and_self, q_fg0, q_fg1, q_fg2, q_fg3, q_fg4, q_fg5, q_fg6, q_lg0, q_lg1, q_lg2, q_lg3, q_lg4, q_lg5, q_sub, q_sub1, q_sub2, q_sub3, q_sub4, q_sub5, q_rng2, q_rng2a, q_aS, q_aS1, q_aS2, q_aS3, q_aS4, q_aS5, q_aS5', q_aS7, e1]
    show (rsSet 6 (rdBin fMod (rdVar 5) (rdLenV 2)) [some (.fro (encI ns)), some (.val (.int 300)), some (.val (.list (encI cs))), some (.own (encI rest)), some (.own (encI draws)), some (.val (.int (k : Int))), none, none, none]).bind _ = _
    rw [s1, q_bs, q_sq1, q_ifS, ← low]
    have s2 : (rtAnd (rdTst (rdBin fGe (rdIxV 2 (rdVar 6)) (rdBin fPow (rdC (.int 10)) (rdC (.int 18))))) (rdTst (rdBin fGt (rdIxV 3 (rdVar 6)) (rdC (.int 0))))) [some (.fro (encI ns)), some (.val (.int 300)), some (.val (.list (encI cs))), some (.own (encI rest)), some (.own (encI draws)), some (.val (.int (k : Int))), some (.val (.int ((k % cs.length : Nat) : Int))), none, none] = some (false, [some (.fro (encI ns)), some (.val (.int 300)), some (.val (.list (encI cs))), some (.own (encI rest)), some (.own (encI draws)), some (.val (.int (k : Int))), some (.val (.int ((k % cs.length : Nat) : Int))), none, none]) := by
      simp only [q_var, q_var1, q_var2, q_mv, q_mv1, q_mv2, q_c, q_pr, q_bin, q_bin1, q_bin2, q_dv, q_do, q_tst, q_tst1, q_isN, q_isN0, q_isN1, q_isN2, q_isN3, q_isN4, q_isN5, q_and, q_and1, q_and2, q_or, q_or1, q_or2, q_not, q_not1, q_yes, q_andV, q_andV1, q_andV2, q_orV, q_orV1, q_orV2, q_notV, q_notV1, q_ifE, q_ifE1, q_ifE2, q_nil, q_cons, q_cons1, q_cons2, q_tup, q_tup1, q_lst, q_lst1, q_cb, q_cb1, q_lenV, q_lenV1, q_seq, q_seq1, q_sl, q_st, q_so, q_sb, q_sf, q_mu, q_mu1, q_mu2, q_muS, q_muS1, q_muS2, q_app, q_app1, q_app2, q_pop, q_pop1, q_rev, q_rev1, q_isi, q_isi1, q_inV, q_inV1, q_ixV, q_ixV1, q_ixV2, q_ixV3, q_ixL, q_ixT, q_kV, q_fI, q_addI, q_eqI, q_eqS, q_eqB, q_int, q_tupL, q_tupT, q_listL, q_listT, q_len1, q_len2, q_neg, q_neg1, q_call, q_call2, q_call3, q_call4, q_cnil, q_ccons, q_ccons1, q_ccons2, q_cb', q_cb'1, q_ar0, q_ar1, q_ar2, q_ar3, q_ar4, q_ar5, q_put0, q_put1, q_put2, q_put3, q_put4, q_put5, q_bix0, q_bix1, q_bix2, q_sq, q_sq1, q_sq2, q_sq3, q_sq4, q_snil, q_ret, q_ret1, q_expr, q_expr1, q_ifS, q_ifS1, q_ifS2, q_set, q_set1, q_asg, q_asg1, q_gname, q_gnil, q_gcons, q_gcons1, q_par, q_par1, q_aug, q_aug1, q_aug2, q_rng, q_iseq, q_iseq1, q_sd1, q_sd2, q_kP2, q_fro, q_fro1, q_for, q_for1, q_k0, q_k1, q_w0, q_w1, q_lc, q_lc2, q_n1, q_n0, q_run, bO_b, bO_v, bO_n, finB0, finB1, q_at0, q_at1, q_at2, q_at3, q_bs, q_bn, q_ms, q_mn, q_g0, q_gs, q_s0, q_ss, List.head?_cons, List.tail_cons, List.map_cons, List.map_nil, List.length_cons, List.length_nil, List.cons_append, List.nil_append, List.replicate_succ, List.replicate_zero, Nat.reduceSub, Nat.reduceAdd, Bool.false_xor, Bool.true_xor, Bool.not_true, Bool.not_false, beq_self_eq_true, isBool, isInt, isStr, isTuple, q_callI, if_true, ite_true, List.nodup_nil, List.nodup_cons, List.not_mem_nil, not_false_eq_true, and_true, true_and, and_self, q_fg0, q_fg1, q_fg2, q_fg3, q_fg4, q_fg5, q_fg6, q_lg0, q_lg1, q_lg2, q_lg3, q_lg4, q_lg5, q_sub, q_sub1, q_sub2, q_sub3, q_sub4, q_sub5, q_rng2, q_rng2a, q_aS, q_aS1, q_aS2, q_aS3, q_aS4, q_aS5, q_aS5', q_aS7, a1, hc, c1]
    rw [s2, q_bs, q_ifS2]
theorem draws_eq (ns : List Int) (hn : ns.length ≤ 63) : ∃ dr, f_Ldraws [.fro (encI ns), .val (.int 300)] = some (.own (E dr), [none, none]) := by
  have hlc : lcGo (rgName 8) rtYes e_Ldraws_1 [8] (encI ns) [] [some (.fro (encI ns)), some (.val (.int 300)), none, none, none, none, none, none, none] = some (encI ns, [some (.fro (encI ns)), some (.val (.int 300)), none, none, none, none, none, none, none]) := by
    have := lc_map (g := rgName 8) (t := e_Ldraws_1) (vs := [8]) PyData.int PyData.int (ρ := [some (.fro (encI ns)), some (.val (.int 300)), none, none, none, none, none, none, none]) ns [] fun x _ => by
      refine ⟨[some (.fro (encI ns)), some (.val (.int 300)), none, none, none, none, none, none, some (.val (.int x))], .val (.int x), [some (.fro (encI ns)), some (.val (.int 300)), none, none, none, none, none, none, some (.val (.int x))], rfl, ?_, rfl, rfl⟩
      unfold e_Ldraws_1
      simp only [q_var, q_var1, q_var2, q_mv, q_mv1, q_mv2, q_c, q_pr, q_bin, q_bin1, q_bin2, q_dv, q_do, q_tst, q_tst1, q_isN, q_isN0, q_isN1, q_isN2, q_isN3, q_isN4, q_isN5, q_and, q_and1, q_and2, q_or, q_or1, q_or2, q_not, q_not1, q_yes, q_andV, q_andV1, q_andV2, q_orV, q_orV1, q_orV2, q_notV, q_notV1, q_ifE, q_ifE1, q_ifE2, q_nil, q_cons, q_cons1, q_cons2, q_tup, q_tup1, q_lst, q_lst1, q_cb, q_cb1, q_lenV, q_lenV1, q_seq, q_seq1, q_sl, q_st, q_so, q_sb, q_sf, q_mu, q_mu1, q_mu2, q_muS, q_muS1, q_muS2, q_app, q_app1, q_app2, q_pop, q_pop1, q_rev, q_rev1, q_isi, q_isi1, q_inV, q_inV1, q_ixV, q_ixV1, q_ixV2, q_ixV3, q_ixL, q_ixT, q_kV, q_fI, q_addI, q_eqI, q_eqS, q_eqB, q_int, q_tupL, q_tupT, q_listL, q_listT, q_len1, q_len2, q_neg, q_neg1, q_call, q_call2, q_call3, q_call4, q_cnil, q_ccons, q_ccons1, q_ccons2, q_cb', q_cb'1, q_ar0, q_ar1, q_ar2, q_ar3, q_ar4, q_ar5, q_put0, q_put1, q_put2, q_put3, q_put4, q_put5, q_bix0, q_bix1, q_bix2, q_sq, q_sq1, q_sq2, q_sq3, q_sq4, q_snil, q_ret, q_ret1, q_expr, q_expr1, q_ifS, q_ifS1, q_ifS2, q_set, q_set1, q_asg, q_asg1, q_gname, q_gnil, q_gcons, q_gcons1, q_par, q_par1, q_aug, q_aug1, q_aug2, q_rng, q_iseq, q_iseq1, q_sd1, q_sd2, q_kP2, q_fro, q_fro1, q_for, q_for1, q_k0, q_k1, q_w0, q_w1, q_lc, q_lc2, q_n1, q_n0, q_run, bO_b, bO_v, bO_n, finB0, finB1, q_at0, q_at1, q_at2, q_at3, q_bs, q_bn, q_ms, q_mn, q_g0, q_gs, q_s0, q_ss, List.head?_cons, List.tail_cons, List.map_cons, List.map_nil, List.length_cons, List.length_nil, List.cons_append, List.nil_append, List.replicate_succ, List.replicate_zero, Nat.reduceSub, Nat.reduceAdd, Bool.false_xor, Bool.true_xor, Bool.not_true, Bool.not_false, beq_self_eq_true, isBool, isInt, isStr, isTuple, q_callI, if_true, ite_true, List.nodup_nil, List.nodup_cons, List.not_mem_nil, not_false_eq_true, and_true, true_and, and_self, q_fg0, q_fg1, q_fg2, q_fg3, q_fg4, q_fg5, q_fg6, q_lg0, q_lg1, q_lg2, q_lg3, q_lg4, q_lg5, q_sub, q_sub1, q_sub2, q_sub3, q_sub4, q_sub5, q_rng2, q_rng2a, q_aS, q_aS1, q_aS2, q_aS3, q_aS4, q_aS5, q_aS5', q_aS7, q_int]
    exact this
  have hsz : (encI ns).length ≤ sizeLine := by rw [encI_len]; exact sz_le (by omega)
  have loop : ∀ (cs : List Int), 0 < cs.length → ∃ rest draws, forGo (rgName 5) w_Ldraws_2 [5, 6, 7] (rng 0 300) (envY ns cs cs []) = some (.nx (envY ns cs rest draws)) := by
    intro cs h0
    obtain ⟨ρ', H1, rest, draws, _, _, hρ⟩ := for_inv (g := rgName 5) (b := w_Ldraws_2) (ks := [5, 6, 7]) (ds := rng 0 300) (ρ := envY ns cs cs []) (fun i ρ => ∃ rest draws, rest.length = cs.length ∧ draws.length = i ∧ ρ = envY ns cs rest draws) 0 ⟨cs, [], rfl, rfl, rfl⟩ fun i d ρ hd h => by
      obtain ⟨rest, draws, h1, h2, rfl⟩ := h
      obtain ⟨hi, rfl⟩ := rng_get hd
      rw [show (0 : Int) + (i : Int) = (i : Int) from Int.zero_add _]
      obtain ⟨rest', x, ρ1, ρ2, h3, h4, h5, h6⟩ := draws_w ns cs rest draws h0 h1 (by omega) i
      exact ⟨ρ1, ρ2, h3, h4, rest', draws ++ [x], h6, by rw [List.length_append, h2]; rfl, h5⟩
    exact ⟨rest, draws, by rw [H1, hρ]⟩
  have e3 : (300 : Int).toNat = 300 := rfl
  have q300 := fun {ρ : En} => q_rng1 (ρ := ρ) (k := 300) (by omega)
  rw [e3] at q300
  have e0 : encI [] = [] := Eq.trans rfl rfl
  by_cases h : ns = []
  · subst h
    obtain ⟨rest, draws, H1⟩ := loop [0] (by simp)
    refine ⟨draws, ?_⟩
    unfold envY at H1
    rw [e0, encI_1] at H1
    rw [e0] at hlc
    rw [e0]
    unfold f_Ldraws b_Ldraws E
    have hz : ([] : List D).length < sizeLine := sz_lt (by simp)
    have hsz : 0 ≤ sizeLine := Nat.zero_le _
    have l0 : (((0 : Nat) : Int) == 0) = true := by decide
    have : (encI draws).reverse = (draws.map PyData.int).reverse := rfl
    rw [← this]
    simp only [q_var, q_var1, q_var2, q_mv, q_mv1, q_mv2, q_c, q_pr, q_bin, q_bin1, q_bin2, q_dv, q_do, q_tst, q_tst1, q_isN, q_isN0, q_isN1, q_isN2, q_isN3, q_isN4, q_isN5, q_and, q_and1, q_and2, q_or, q_or1, q_or2, q_not, q_not1, q_yes, q_andV, q_andV1, q_andV2, q_orV, q_orV1, q_orV2, q_notV, q_notV1, q_ifE, q_ifE1, q_ifE2, q_nil, q_cons, q_cons1, q_cons2, q_tup, q_tup1, q_lst, q_lst1, q_cb, q_cb1, q_lenV, q_lenV1, q_seq, q_seq1, q_sl, q_st, q_so, q_sb, q_sf, q_mu, q_mu1, q_mu2, q_muS, q_muS1, q_muS2, q_app, q_app1, q_app2, q_pop, q_pop1, q_rev, q_rev1, q_isi, q_isi1, q_inV, q_inV1, q_ixV, q_ixV1, q_ixV2, q_ixV3, q_ixL, q_ixT, q_kV, q_fI, q_addI, q_eqI, q_eqS, q_eqB, q_int, q_tupL, q_tupT, q_listL, q_listT, q_len1, q_len2, q_neg, q_neg1, q_call, q_call2, q_call3, q_call4, q_cnil, q_ccons, q_ccons1, q_ccons2, q_cb', q_cb'1, q_ar0, q_ar1, q_ar2, q_ar3, q_ar4, q_ar5, q_put0, q_put1, q_put2, q_put3, q_put4, q_put5, q_bix0, q_bix1, q_bix2, q_sq, q_sq1, q_sq2, q_sq3, q_sq4, q_snil, q_ret, q_ret1, q_expr, q_expr1, q_ifS, q_ifS1, q_ifS2, q_set, q_set1, q_asg, q_asg1, q_gname, q_gnil, q_gcons, q_gcons1, q_par, q_par1, q_aug, q_aug1, q_aug2, q_rng, q_iseq, q_iseq1, q_sd1, q_sd2, q_kP2, q_fro, q_fro1, q_for, q_for1, q_k0, q_k1, q_w0, q_w1, q_lc, q_lc2, q_n1, q_n0, q_run, bO_b, bO_v, bO_n, finB0, finB1, q_at0, q_at1, q_at2, q_at3, q_bs, q_bn, q_ms, q_mn, q_g0, q_gs, q_s0, q_ss, List.head?_cons, List.tail_cons, List.map_cons, List.map_nil, List.length_cons, List.length_nil, List.cons_append, List.nil_append, List.replicate_succ, List.replicate_zero, Nat.reduceSub, Nat.reduceAdd, Bool.false_xor, Bool.true_xor, Bool.not_true, Bool.not_false, beq_self_eq_true, isBool, isInt, isStr, isTuple, q_callI, if_true, ite_true, List.nodup_nil, List.nodup_cons, List.not_mem_nil, not_false_eq_true, and_true, true_and, and_self, q_fg0, q_fg1, q_fg2, q_fg3, q_fg4, q_fg5, q_fg6, q_lg0, q_lg1, q_lg2, q_lg3, q_lg4, q_lg5, q_sub, q_sub1, q_sub2, q_sub3, q_sub4, q_sub5, q_rng2, q_rng2a, q_aS, q_aS1, q_aS2, q_aS3, q_aS4, q_aS5, q_aS5', q_aS7, q_fro1, q_lcI, hsz, hlc, l0, q_app3 hz, q300, H1, bO_f]
  · have hpos : 0 < ns.length := List.length_pos_iff.mpr h
    obtain ⟨rest, draws, H1⟩ := loop ns hpos
    refine ⟨draws, ?_⟩
    unfold envY at H1
    rw [e0] at H1
    unfold f_Ldraws b_Ldraws E
    have l0 : (((encI ns).length : Int) == 0) = false := by rw [beq_eq_false_iff_ne, encI_len]; omega
    have : (encI draws).reverse = (draws.map PyData.int).reverse := rfl
    rw [← this]
    simp only [q_var, q_var1, q_var2, q_mv, q_mv1, q_mv2, q_c, q_pr, q_bin, q_bin1, q_bin2, q_dv, q_do, q_tst, q_tst1, q_isN, q_isN0, q_isN1, q_isN2, q_isN3, q_isN4, q_isN5, q_and, q_and1, q_and2, q_or, q_or1, q_or2, q_not, q_not1, q_yes, q_andV, q_andV1, q_andV2, q_orV, q_orV1, q_orV2, q_notV, q_notV1, q_ifE, q_ifE1, q_ifE2, q_nil, q_cons, q_cons1, q_cons2, q_tup, q_tup1, q_lst, q_lst1, q_cb, q_cb1, q_lenV, q_lenV1, q_seq, q_seq1, q_sl, q_st, q_so, q_sb, q_sf, q_mu, q_mu1, q_mu2, q_muS, q_muS1, q_muS2, q_app, q_app1, q_app2, q_pop, q_pop1, q_rev, q_rev1, q_isi, q_isi1, q_inV, q_inV1, q_ixV, q_ixV1, q_ixV2, q_ixV3, q_ixL, q_ixT, q_kV, q_fI, q_addI, q_eqI, q_eqS, q_eqB, q_int, q_tupL, q_tupT, q_listL, q_listT, q_len1, q_len2, q_neg, q_neg1, q_call, q_call2, q_call3, q_call4, q_cnil, q_ccons, q_ccons1, q_ccons2, q_cb', q_cb'1, q_ar0, q_ar1, q_ar2, q_ar3, q_ar4, q_ar5, q_put0, q_put1, q_put2, q_put3, q_put4, q_put5, q_bix0, q_bix1, q_bix2, q_sq, q_sq1, q_sq2, q_sq3, q_sq4, q_snil, q_ret, q_ret1, q_expr, q_expr1, q_ifS, q_ifS1, q_ifS2, q_set, q_set1, q_asg, q_asg1, q_gname, q_gnil, q_gcons, q_gcons1, q_par, q_par1, q_aug, q_aug1, q_aug2, q_rng, q_iseq, q_iseq1, q_sd1, q_sd2, q_kP2, q_fro, q_fro1, q_for, q_for1, q_k0, q_k1, q_w0, q_w1, q_lc, q_lc2, q_n1, q_n0, q_run, bO_b, bO_v, bO_n, finB0, finB1, q_at0, q_at1, q_at2, q_at3, q_bs, q_bn, q_ms, q_mn, q_g0, q_gs, q_s0, q_ss, List.head?_cons, List.tail_cons, List.map_cons, List.map_nil, List.length_cons, List.length_nil, List.cons_append, List.nil_append, List.replicate_succ, List.replicate_zero, Nat.reduceSub, Nat.reduceAdd, Bool.false_xor, Bool.true_xor, Bool.not_true, Bool.not_false, beq_self_eq_true, isBool, isInt, isStr, isTuple, q_callI, if_true, ite_true, List.nodup_nil, List.nodup_cons, List.not_mem_nil, not_false_eq_true, and_true, true_and, and_self, q_fg0, q_fg1, q_fg2, q_fg3, q_fg4, q_fg5, q_fg6, q_lg0, q_lg1, q_lg2, q_lg3, q_lg4, q_lg5, q_sub, q_sub1, q_sub2, q_sub3, q_sub4, q_sub5, q_rng2, q_rng2a, q_aS, q_aS1, q_aS2, q_aS3, q_aS4, q_aS5, q_aS5', q_aS7, q_fro1, q_lcI, hsz, hlc, l0, q300, H1, bO_f]
theorem cell_eq (ns : List Int) (hn : ns.length ≤ 63) : ∃ c : Int, f_Lcell [.fro (encI ns)] = some (.val (.int c), [none]) := by
  unfold f_Lcell b_Lcell
  by_cases h : ns = []
  · subst h
    refine ⟨0, ?_⟩
    have l0 : (((encI []).length : Int) == 0) = true := by decide
    simp only [q_var, q_var1, q_var2, q_mv, q_mv1, q_mv2, q_c, q_pr, q_bin, q_bin1, q_bin2, q_dv, q_do, q_tst, q_tst1, q_isN, q_isN0, q_isN1, q_isN2, q_isN3, q_isN4, q_isN5, q_and, q_and1, q_and2, q_or, q_or1, q_or2, q_not, q_not1, q_yes, q_andV, q_andV1, q_andV2, q_orV, q_orV1, q_orV2, q_notV, q_notV1, q_ifE, q_ifE1, q_ifE2, q_nil, q_cons, q_cons1, q_cons2, q_tup, q_tup1, q_lst, q_lst1, q_cb, q_cb1, q_lenV, q_lenV1, q_seq, q_seq1, q_sl, q_st, q_so, q_sb, q_sf, q_mu, q_mu1, q_mu2, q_muS, q_muS1, q_muS2, q_app, q_app1, q_app2, q_pop, q_pop1, q_rev, q_rev1, q_isi, q_isi1, q_inV, q_inV1, q_ixV, q_ixV1, q_ixV2, q_ixV3, q_ixL, q_ixT, q_kV, q_fI, q_addI, q_eqI, q_eqS, q_eqB, q_int, q_tupL, q_tupT, q_listL, q_listT, q_len1, q_len2, q_neg, q_neg1, q_call, q_call2, q_call3, q_call4, q_cnil, q_ccons, q_ccons1, q_ccons2, q_cb', q_cb'1, q_ar0, q_ar1, q_ar2, q_ar3, q_ar4, q_ar5, q_put0, q_put1, q_put2, q_put3, q_put4, q_put5, q_bix0, q_bix1, q_bix2, q_sq, q_sq1, q_sq2, q_sq3, q_sq4, q_snil, q_ret, q_ret1, q_expr, q_expr1, q_ifS, q_ifS1, q_ifS2, q_set, q_set1, q_asg, q_asg1, q_gname, q_gnil, q_gcons, q_gcons1, q_par, q_par1, q_aug, q_aug1, q_aug2, q_rng, q_iseq, q_iseq1, q_sd1, q_sd2, q_kP2, q_fro, q_fro1, q_for, q_for1, q_k0, q_k1, q_w0, q_w1, q_lc, q_lc2, q_n1, q_n0, q_run, bO_b, bO_v, bO_n, finB0, finB1, q_at0, q_at1, q_at2, q_at3, q_bs, q_bn, q_ms, q_mn, q_g0, q_gs, q_s0, q_ss, List.head?_cons, List.tail_cons, List.map_cons, List.map_nil, List.length_cons, List.length_nil, List.cons_append, List.nil_append, List.replicate_succ, List.replicate_zero, Nat.reduceSub, Nat.reduceAdd, Bool.false_xor, Bool.true_xor, Bool.not_true, Bool.not_false, beq_self_eq_true, isBool, isInt, isStr, isTuple, q_callI, if_true, ite_true, List.nodup_nil, List.nodup_cons, List.not_mem_nil, not_false_eq_true, and_true, true_and, and_self, q_fg0, q_fg1, q_fg2, q_fg3, q_fg4, q_fg5, q_fg6, q_lg0, q_lg1, q_lg2, q_lg3, q_lg4, q_lg5, q_sub, q_sub1, q_sub2, q_sub3, q_sub4, q_sub5, q_rng2, q_rng2a, q_aS, q_aS1, q_aS2, q_aS3, q_aS4, q_aS5, q_aS5', q_aS7, l0, bO_f]
  · have hpos : 0 < ns.length := List.length_pos_iff.mpr h
    have l0 : (((encI ns).length : Int) == 0) = false := by rw [beq_eq_false_iff_ne, encI_len]; omega
    obtain ⟨c, hc, hcp⟩ := p60
    have hm : ((ns.length - 1) % 7) % ns.length < ns.length := Nat.mod_lt _ hpos
    have e1 : ((encI ns).length : Int) - 1 = ((ns.length - 1 : Nat) : Int) := by rw [encI_len]; omega
    have e2 : fMod (.int ((ns.length - 1 : Nat) : Int)) (.int 7) = some (.val (.int (((ns.length - 1) % 7 : Nat) : Int))) := by
      rw [q_mod (by decide)]
      rfl
    have e3 : fMod (.int (((ns.length - 1) % 7 : Nat) : Int)) (.int ((encI ns).length : Int)) = some (.val (.int ((((ns.length - 1) % 7) % ns.length : Nat) : Int))) := by
      rw [encI_len, q_mod (by omega)]
      rfl
    have a1 := at_encI hm
    have mc : ∀ x, fMod (.int x) (.int c) = some (.val (.int (x % c))) := fun x => q_mod hcp
    generalize ns[((ns.length - 1) % 7) % ns.length] = A at a1
    cases c1 : decide (A < 0) with
    | true =>
      refine ⟨-(-A % c), ?_⟩
      simp only [q_var, q_var1, q_var2, q_mv, q_mv1, q_mv2, q_c, q_pr, q_bin, q_bin1, q_bin2, q_dv, q_do, q_tst, q_tst1, q_isN, q_isN0, q_isN1, q_isN2, q_isN3, q_isN4, q_isN5, q_and, q_and1, q_and2, q_or, q_or1, q_or2, q_not, q_not1, q_yes, q_andV, q_andV1, q_andV2, q_orV, q_orV1, q_orV2, q_notV, q_notV1, q_ifE, q_ifE1, q_ifE2, q_nil, q_cons, q_cons1, q_cons2, q_tup, q_tup1, q_lst, q_lst1, q_cb, q_cb1, q_lenV, q_lenV1, q_seq, q_seq1, q_sl, q_st, q_so, q_sb, q_sf, q_mu, q_mu1, q_mu2, q_muS, q_muS1, q_muS2, q_app, q_app1, q_app2, q_pop, q_pop1, q_rev, q_rev1, q_isi, q_isi1, q_inV, q_inV1, q_ixV, q_ixV1, q_ixV2, q_ixV3, q_ixL, q_ixT, q_kV, q_fI, q_addI, q_eqI, q_eqS, q_eqB, q_int, q_tupL, q_tupT, q_listL, q_listT, q_len1, q_len2, q_neg, q_neg1, q_call, q_call2, q_call3, q_call4, q_cnil, q_ccons, q_ccons1, q_ccons2, q_cb', q_cb'1, q_ar0, q_ar1, q_ar2, q_ar3, q_ar4, q_ar5, q_put0, q_put1, q_put2, q_put3, q_put4, q_put5, q_bix0, q_bix1, q_bix2, q_sq, q_sq1, q_sq2, q_sq3, q_sq4, q_snil, q_ret, q_ret1, q_expr, q_expr1, q_ifS, q_ifS1, q_ifS2, q_set, q_set1, q_asg, q_asg1, q_gname, q_gnil, q_gcons, q_gcons1, q_par, q_par1, q_aug, q_aug1, q_aug2, q_rng, q_iseq, q_iseq1, q_sd1, q_sd2, q_kP2, q_fro, q_fro1, q_for, q_for1, q_k0, q_k1, q_w0, q_w1, q_lc, q_lc2, q_n1, q_n0, q_run, bO_b, bO_v, bO_n, finB0, finB1, q_at0, q_at1, q_at2, q_at3, q_bs, q_bn, q_ms, q_mn, q_g0, q_gs, q_s0, q_ss, List.head?_cons, List.tail_cons, List.map_cons, List.map_nil, List.length_cons, List.length_nil, List.cons_append, List.nil_append, List.replicate_succ, List.replicate_zero, Nat.reduceSub, Nat.reduceAdd, Bool.false_xor, Bool.true_xor, Bool.not_true, Bool.not_false, beq_self_eq_true, isBool, isInt, isStr, isTuple, q_callI, if_true, ite_true, List.nodup_nil, List.nodup_cons, List.not_mem_nil, not_false_eq_true, and_true, true_and, and_self, q_fg0, q_fg1, q_fg2, q_fg3, q_fg4, q_fg5, q_fg6, q_lg0, q_lg1, q_lg2, q_lg3, q_lg4, q_lg5, q_sub, q_sub1, q_sub2, q_sub3, q_sub4, q_sub5, q_rng2, q_rng2a, q_aS, q_aS1, q_aS2, q_aS3, q_aS4, q_aS5, q_aS5', q_aS7, l0, e1, e2, e3, a1, c1, hc, mc, bO_f]
    | false =>
      refine ⟨A % c, ?_⟩
      simp only [q_var, q_var1, q_var2, q_mv, q_mv1, q_mv2, q_c, q_pr, q_bin, q_bin1, q_bin2, q_dv, q_do, q_tst, q_tst1, q_isN, q_isN0, q_isN1, q_isN2, q_isN3, q_isN4, q_isN5, q_and, q_and1, q_and2, q_or, q_or1, q_or2, q_not, q_not1, q_yes, q_andV, q_andV1, q_andV2, q_orV, q_orV1, q_orV2, q_notV, q_notV1, q_ifE, q_ifE1, q_ifE2, q_nil, q_cons, q_cons1, q_cons2, q_tup, q_tup1, q_lst, q_lst1, q_cb, q_cb1, q_lenV, q_lenV1, q_seq, q_seq1, q_sl, q_st, q_so, q_sb, q_sf, q_mu, q_mu1, q_mu2, q_muS, q_muS1, q_muS2, q_app, q_app1, q_app2, q_pop, q_pop1, q_rev, q_rev1, q_isi, q_isi1, q_inV, q_inV1, q_ixV, q_ixV1, q_ixV2, q_ixV3, q_ixL, q_ixT, q_kV, q_fI, q_addI, q_eqI, q_eqS, q_eqB, q_int, q_tupL, q_tupT, q_listL, q_listT, q_len1, q_len2, q_neg, q_neg1, q_call, q_call2, q_call3, q_call4, q_cnil, q_ccons, q_ccons1, q_ccons2, q_cb', q_cb'1, q_ar0, q_ar1, q_ar2, q_ar3, q_ar4, q_ar5, q_put0, q_put1, q_put2, q_put3, q_put4, q_put5, q_bix0, q_bix1, q_bix2, q_sq, q_sq1, q_sq2, q_sq3, q_sq4, q_snil, q_ret, q_ret1, q_expr, q_expr1, q_ifS, q_ifS1, q_ifS2, q_set, q_set1, q_asg, q_asg1, q_gname, q_gnil, q_gcons, q_gcons1, q_par, q_par1, q_aug, q_aug1, q_aug2, q_rng, q_iseq, q_iseq1, q_sd1, q_sd2, q_kP2, q_fro, q_fro1, q_for, q_for1, q_k0, q_k1, q_w0, q_w1, q_lc, q_lc2, q_n1, q_n0, q_run, bO_b, bO_v, bO_n, finB0, finB1, q_at0, q_at1, q_at2, q_at3, q_bs, q_bn, q_ms, q_mn, q_g0, q_gs, q_s0, q_ss, List.head?_cons, List.tail_cons, List.map_cons, List.map_nil, List.length_cons, List.length_nil, List.cons_append, List.nil_append, List.replicate_succ, List.replicate_zero, Nat.reduceSub, Nat.reduceAdd, Bool.false_xor, Bool.true_xor, Bool.not_true, Bool.not_false, beq_self_eq_true, isBool, isInt, isStr, isTuple, q_callI, if_true, ite_true, List.nodup_nil, List.nodup_cons, List.not_mem_nil, not_false_eq_true, and_true, true_and, and_self, q_fg0, q_fg1, q_fg2, q_fg3, q_fg4, q_fg5, q_fg6, q_lg0, q_lg1, q_lg2, q_lg3, q_lg4, q_lg5, q_sub, q_sub1, q_sub2, q_sub3, q_sub4, q_sub5, q_rng2, q_rng2a, q_aS, q_aS1, q_aS2, q_aS3, q_aS4, q_aS5, q_aS5', q_aS7, l0, e1, e2, e3, a1, c1, hc, mc, bO_f]
end K50

set_option Elab.async false
set_option linter.all false
set_option maxRecDepth 100000
set_option maxHeartbeats 4000000
namespace K50
open PySem L2 DL
/-! ### the written programs -/
def eOf : D := .tuple [.str "of", .int 0]
def pS : Pg := ⟨1, [(.tuple [], .test eOf 1 2), (.tuple [], .test eOf 3 3), (.tuple [], .goto 3), (.tuple [], .fin eOf), (.tuple [], .goto 4)]⟩
def pB : Pg := ⟨1, [(.tuple [], .test eOf 0 1), (.tuple [], .fin eOf)]⟩
def pR : Pg := ⟨0, [(.tuple [], .goto 0)]⟩
theorem wf_bool {p : Pg} (h1 : 0 < p.n) (h2 : p.n ≤ 6) (h : (p.bs.all fun x => x.2.ways.all fun w => decide (w < p.n)) = true) : p.Wf := by
  refine wf_of h1 h2 fun x hx w hw => ?_
  have := List.all_eq_true.mp h x hx
  exact of_decide_eq_true (List.all_eq_true.mp this w hw)
theorem pS_wf : pS.Wf := wf_bool (by decide) (by decide) (by decide)
theorem pB_wf : pB.Wf := wf_bool (by decide) (by decide) (by decide)
theorem pR_wf : pR.Wf := wf_bool (by decide) (by decide) (by decide)
theorem pS_enc : PyData.tuple [.int 1, .tuple [.tuple [.tuple [], .tuple [.str "test", .tuple [.str "of", .int 0], .int 1, .int 2]], .tuple [.tuple [], .tuple [.str "test", .tuple [.str "of", .int 0], .int 3, .int 3]], .tuple [.tuple [], .tuple [.str "goto", .int 3]], .tuple [.tuple [], .tuple [.str "end", .tuple [.str "of", .int 0]]], .tuple [.tuple [], .tuple [.str "goto", .int 4]]]] = pS.enc := Eq.trans rfl rfl
theorem pB_enc : PyData.tuple [.int 1, .tuple [.tuple [.tuple [], .tuple [.str "test", .tuple [.str "of", .int 0], .int 0, .int 1]], .tuple [.tuple [], .tuple [.str "end", .tuple [.str "of", .int 0]]]]] = pB.enc := Eq.trans rfl rfl
theorem pR_enc : PyData.tuple [.int 0, .tuple [.tuple [.tuple [], .tuple [.str "goto", .int 0]]]] = pR.enc := Eq.trans rfl rfl
theorem lst {p : Pg} (wf : p.Wf) {x : Option Nat} (h : dist p.W p.n 0 = x) : f_least_steps [.val p.enc] = some (.val (encO x), [none]) := by
  subst h
  exact least_eq p wf (fewest_at p.W p.n wf.pos wf.go)
theorem gst {p : Pg} (wf : p.Wf) {x : Option Nat} (h : ht p.W p.n 0 = x) : f_greatest_steps [.val p.enc] = some (.val (encO x), [none]) := by
  subst h
  obtain ⟨bl, R, hg⟩ := greatest_eq p wf
  exact hg _ (grt_at R.zero R.nd R.lt R.cl)
theorem win {p : Pg} (wf : p.Wf) {k x : Nat} (hk : k ≤ 1000) (h : (ca p.W p.n k).2.2 = x) : f_rows_within [.val p.enc, .val (.int (k : Int))] = some (.val (.int (x : Int)), [none, none]) := by
  subst h
  exact within_eq p wf k hk
theorem opn {p : Pg} (wf : p.Wf) {k x : Nat} (hk : k ≤ 1000) (h : (ca p.W p.n k).2.1.sum = x) : f_rows_open [.val p.enc, .val (.int (k : Int))] = some (.val (.int (x : Int)), [none, none]) := by
  subst h
  exact open_eq p wf k hk
theorem aln {p : Pg} (wf : p.Wf) {row : List Nat} (hrow : (row.all fun x => decide (x < 2)) = true) (hrl : row.length ≤ 1000) {most : Nat} (hm : most ≤ 1000) {d : D} (h : alG p.W row most (List.range most) 0 0 = d) :
    f_steps_along [.val p.enc, .val (.tuple (encN row)), .val (.int (most : Int))] = some (.val d, [none, none, none]) := by
  subst h
  exact along_eq p wf row (fun x hx => of_decide_eq_true (List.all_eq_true.mp hrow x hx)) hrl most hm
theorem S1 : f_least_steps [.val pS.enc] = some (.val (.int 3), [none]) := lst pS_wf (x := some 3) (by decide +kernel)
theorem S2 : f_greatest_steps [.val pS.enc] = some (.val (.int 3), [none]) := gst pS_wf (x := some 3) (by decide +kernel)
theorem S3 : f_rows_within [.val pS.enc, .val (.int 2)] = some (.val (.int 0), [none, none]) := win pS_wf (k := 2) (x := 0) (by decide) (by decide +kernel)
theorem S4 : f_rows_within [.val pS.enc, .val (.int 3)] = some (.val (.int 3), [none, none]) := win pS_wf (k := 3) (x := 3) (by decide) (by decide +kernel)
theorem S5 : f_rows_open [.val pS.enc, .val (.int 1)] = some (.val (.int 2), [none, none]) := opn pS_wf (k := 1) (x := 2) (by decide) (by decide +kernel)
theorem S6 : f_rows_open [.val pS.enc, .val (.int 2)] = some (.val (.int 3), [none, none]) := opn pS_wf (k := 2) (x := 3) (by decide) (by decide +kernel)
theorem S7 : f_rows_open [.val pS.enc, .val (.int 0)] = some (.val (.int 1), [none, none]) := opn pS_wf (k := 0) (x := 1) (by decide) (by decide +kernel)
theorem B1 : f_least_steps [.val pB.enc] = some (.val (.int 2), [none]) := lst pB_wf (x := some 2) (by decide +kernel)
theorem B2 : f_greatest_steps [.val pB.enc] = some (.val .none, [none]) := gst pB_wf (x := none) (by decide +kernel)
theorem B3 : f_rows_within [.val pB.enc, .val (.int 5)] = some (.val (.int 4), [none, none]) := win pB_wf (k := 5) (x := 4) (by decide) (by decide +kernel)
theorem B4 : f_rows_open [.val pB.enc, .val (.int 40)] = some (.val (.int 2), [none, none]) := opn pB_wf (k := 40) (x := 2) (by decide) (by decide +kernel)
theorem B5 : f_steps_along [.val pB.enc, .val (.tuple [.int 1, .int 1]), .val (.int 9)] = some (.val (.tuple [.str "asks", .int 2]), [none, none, none]) := aln pB_wf (row := [1, 1]) (by decide) (by decide) (most := 9) (by decide) rfl
theorem B6 : f_steps_along [.val pB.enc, .val (.tuple [.int 1, .int 1]), .val (.int 2)] = some (.val (.tuple [.str "open", .int 2]), [none, none, none]) := aln pB_wf (row := [1, 1]) (by decide) (by decide) (most := 2) (by decide) rfl
theorem B7 : f_steps_along [.val pB.enc, .val (.tuple [.int 1, .int 0, .int 1]), .val (.int 9)] = some (.val (.tuple [.str "ended", .int 3]), [none, none, none]) := aln pB_wf (row := [1, 0, 1]) (by decide) (by decide) (most := 9) (by decide) rfl
theorem B8 : f_rows_within [.val pB.enc, .val (.int 0)] = some (.val (.int 0), [none, none]) := win pB_wf (k := 0) (x := 0) (by decide) (by decide +kernel)
theorem B9 : f_steps_along [.val pB.enc, .val (.tuple []), .val (.int 1)] = some (.val (.tuple [.str "asks", .int 0]), [none, none, none]) := aln pB_wf (row := []) (by decide) (by decide) (most := 1) (by decide) rfl
theorem R1 : f_least_steps [.val pR.enc] = some (.val .none, [none]) := lst pR_wf (x := none) (by decide +kernel)
/-- data that _law_same can read, as a test -/
def smB : Nat → D → Bool
  | 0, _ => false
  | _ + 1, .bool _ => true
  | _ + 1, .int _ => true
  | _ + 1, .str _ => true
  | _ + 1, .none => true
  | n + 1, .tuple ds => (ds.all fun d => smB n d) && decide (ds.length ≤ 1000)
  | _ + 1, _ => false
theorem smB_ok : ∀ (n : Nat) (d : D), smB n d = true → Sm n d
  | 0, d, h => by cases h
  | n + 1, d, h => by
    cases d with
    | bool b => exact .b n b
    | int b => exact .i n b
    | str b => exact .s n b
    | none => exact .e n
    | tuple ds =>
      have h : ((ds.all fun d => smB n d) && decide (ds.length ≤ 1000)) = true := h
      rw [Bool.and_eq_true] at h
      exact .t n ds (fun d hd => smB_ok n d (List.all_eq_true.mp h.1 d hd)) (of_decide_eq_true h.2)
    | _ => cases h
theorem sS : f_Lsame 12 [.val (.tuple [.int 3, .int 3, .int 0, .int 3, .int 2, .int 3, .int 1]), .val (.tuple [.int 3, .int 3, .int 0, .int 3, .int 2, .int 3, .int 1])] = some (.val (.bool true), [none, none]) := same_eq 12 _ (smB_ok _ _ rfl)
theorem sB : f_Lsame 12 [.val (.tuple [.int 2, .none, .int 4, .int 2, .tuple [.str "asks", .int 2], .tuple [.str "open", .int 2], .tuple [.str "ended", .int 3]]), .val (.tuple [.int 2, .none, .int 4, .int 2, .tuple [.str "asks", .int 2], .tuple [.str "open", .int 2], .tuple [.str "ended", .int 3]])] = some (.val (.bool true), [none, none]) := same_eq 12 _ (smB_ok _ _ rfl)
theorem sR : f_Lsame 12 [.val (.tuple [.none, .int 0, .tuple [.str "asks", .int 0]]), .val (.tuple [.none, .int 0, .tuple [.str "asks", .int 0]])] = some (.val (.bool true), [none, none]) := same_eq 12 _ (smB_ok _ _ rfl)
theorem law_true (ns : List Int) (h : ns.length ≤ 63) : ∃ fin, f_law [.fro (ns.map PyData.int)] = some (.val (.bool true), fin) := by
  obtain ⟨dr, h1⟩ := draws_eq ns h
  obtain ⟨c, h2⟩ := cell_eq ns h
  have l1 := tn_lt dr (n := 3) (by omega)
  have e1 : (1 : Int) + ((tn dr 3 : Nat) : Int) = ((1 + tn dr 3 : Nat) : Int) := by omega
  have e2 : ((1 + tn dr 3 : Nat) : Int) + 1 = ((1 + tn dr 3 + 1 : Nat) : Int) := by omega
  have t2 := take_n dr.tail (n := 1 + tn dr 3 + 1) (by omega)
  have l2 := tn_lt dr.tail.tail (n := 6) (by omega)
  have e3 : (1 : Int) + ((tn dr.tail.tail 6 : Nat) : Int) = ((1 + tn dr.tail.tail 6 : Nat) : Int) := by omega
  obtain ⟨p, dr1, h3, wf⟩ := program_eq dr.tail.tail.tail (tn dr.tail (1 + tn dr 3 + 1)) (1 + tn dr 3) (1 + tn dr.tail.tail 6) (by omega) (by omega) (by omega) c
  obtain ⟨dr2, h4⟩ := told_eq p wf dr1
  obtain ⟨p', dr3, h5, wf'⟩ := forward_eq p wf dr2
  obtain ⟨dr4, h6⟩ := told_eq p' wf' dr3
  unfold f_law b_law
  refine ⟨[none], ?_⟩
  show runF 9 _ [.fro (encI ns)] = _
  simp only [q_var, q_var1, q_var2, q_mv, q_mv1, q_mv2, q_c, q_pr, q_bin, q_bin1, q_bin2, q_dv, q_do, q_tst, q_tst1, q_isN, q_isN0, q_isN1, q_isN2, q_isN3, q_isN4, q_isN5, q_and, q_and1, q_and2, q_or, q_or1, q_or2, q_not, q_not1, q_yes, q_andV, q_andV1, q_andV2, q_orV, q_orV1, q_orV2, q_notV, q_notV1, q_ifE, q_ifE1, q_ifE2, q_nil, q_cons, q_cons1, q_cons2, q_tup, q_tup1, q_lst, q_lst1, q_cb, q_cb1, q_lenV, q_lenV1, q_seq, q_seq1, q_sl, q_st, q_so, q_sb, q_sf, q_mu, q_mu1, q_mu2, q_muS, q_muS1, q_muS2, q_app, q_app1, q_app2, q_pop, q_pop1, q_rev, q_rev1, q_isi, q_isi1, q_inV, q_inV1, q_ixV, q_ixV1, q_ixV2, q_ixV3, q_ixL, q_ixT, q_kV, q_fI, q_addI, q_eqI, q_eqS, q_eqB, q_int, q_tupL, q_tupT, q_listL, q_listT, q_len1, q_len2, q_neg, q_neg1, q_call, q_call2, q_call3, q_call4, q_cnil, q_ccons, q_ccons1, q_ccons2, q_cb', q_cb'1, q_ar0, q_ar1, q_ar2, q_ar3, q_ar4, q_ar5, q_put0, q_put1, q_put2, q_put3, q_put4, q_put5, q_bix0, q_bix1, q_bix2, q_sq, q_sq1, q_sq2, q_sq3, q_sq4, q_snil, q_ret, q_ret1, q_expr, q_expr1, q_ifS, q_ifS1, q_ifS2, q_set, q_set1, q_asg, q_asg1, q_gname, q_gnil, q_gcons, q_gcons1, q_par, q_par1, q_aug, q_aug1, q_aug2, q_rng, q_iseq, q_iseq1, q_sd1, q_sd2, q_kP2, q_fro, q_fro1, q_for, q_for1, q_k0, q_k1, q_w0, q_w1, q_lc, q_lc2, q_n1, q_n0, q_run, bO_b, bO_v, bO_n, finB0, finB1, q_at0, q_at1, q_at2, q_at3, q_bs, q_bn, q_ms, q_mn, q_g0, q_gs, q_s0, q_ss, List.head?_cons, List.tail_cons, List.map_cons, List.map_nil, List.length_cons, List.length_nil, List.cons_append, List.nil_append, List.replicate_succ, List.replicate_zero, Nat.reduceSub, Nat.reduceAdd, Bool.false_xor, Bool.true_xor, Bool.not_true, Bool.not_false, beq_self_eq_true, isBool, isInt, isStr, isTuple, q_callI, if_true, ite_true, List.nodup_nil, List.nodup_cons, List.not_mem_nil, not_false_eq_true, and_true, true_and, and_self, q_fg0, q_fg1, q_fg2, q_fg3, q_fg4, q_fg5, q_fg6, q_lg0, q_lg1, q_lg2, q_lg3, q_lg4, q_lg5, q_sub, q_sub1, q_sub2, q_sub3, q_sub4, q_sub5, q_rng2, q_rng2a, q_aS, q_aS1, q_aS2, q_aS3, q_aS4, q_aS5, q_aS5', q_aS7, h1, h2, take_3, e1, e2, t2, take_6, e3, h3, h4, h5, h6, pS_enc, pB_enc, pR_enc, S1, S2, S3, S4, S5, S6, S7, sS, B1, B2, B3, B4, B5, B6, B7, B8, B9, R1, sB, sR, bO_f]
end K50

set_option Elab.async false
open PySem PySem.W PyProof.Rows
set_option maxRecDepth 100000 in
set_option maxHeartbeats 0 in
theorem PySem.Challenge.cw_justtherest_k50_costs_over_rows_holds : PySem.Challenge.rw_justtherest_k50_costs_over_rows.Holds := by
  w_on; o_law; k_head; (case hw => w_witness2)
  k_fill
  refine L2.walk_of (l := PySem.Challenge.rw_justtherest_k50_costs_over_rows) (n := 63) (k := 15) (x := "script") (CX := fun _ => L2.CX0) (sp := fun w => DL.spD _ 1 K50.f_law) rfl (by decide) rfl ⟨rfl, by decide, by decide⟩ (fun w h Y => PySem.W.kIn_of Y) ?F (fun _ H a ns hl _ hS => DL.law_sp (K50.law_true ns hl) hS) (fun _ _ _ _ _ h => h)
  case F =>
    intro w mg fa h KX G hmg
    refine' K50.all_mk KX G hmg ?a0 ?l0 ?c0 ?k0 ?a1 ?l1 ?c1 ?k1 ?a2 ?l2 ?c2 ?k2 ?a3 ?l3 ?c3 ?k3 ?a4 ?l4 ?c4 ?k4 ?a5 ?l5 ?c5 ?k5 ?a6 ?l6 ?c6 ?k6 ?a7 ?l7 ?c7 ?k7 ?a8 ?l8 ?c8 ?k8 ?a9 ?l9 ?c9 ?k9 ?a10 ?l10 ?c10 ?k10 ?a11 ?l11 ?c11 ?k11 ?a12 ?l12 ?c12 ?k12 ?a13 ?l13 ?c13 ?k13 ?a14 ?l14 ?c14 ?k14 ?a15 ?l15 ?c15 ?k15 ?a16 ?l16 ?c16 ?k16 ?a17 ?l17 ?c17 ?k17 ?a18 ?l18 ?c18 ?k18 ?a19 ?l19 ?c19 ?k19 ?a20 ?l20 ?c20 ?k20 ?a21 ?l21 ?c21 ?k21 ?a22 ?l22 ?c22 ?k22 ?a23 ?l23 ?c23 ?k23 ?a24 ?l24 ?c24 ?k24 ?a25 ?l25 ?c25 ?k25 ?a26 ?l26 ?c26 ?k26 ?a27 ?l27 ?c27 ?k27 ?a28 ?l28 ?c28 ?k28 ?a29 ?l29 ?c29 ?k29 ?a30 ?l30 ?c30 ?k30 ?zlen ?zint ?ztup ?zlist ?zbool ?zstr ?zmax ?zmin ?zsum ?zsorted ?zall ?zany ?zisi ?zrange ?zabs ?zset
    (case a0 => k_is)
    (case l0 => k_is)
    (case c0 => k_is)
    (case k0 => k_is)
    (case a1 => k_is)
    (case l1 => k_is)
    (case c1 => k_is)
    (case k1 => k_is)
    (case a2 => k_is)
    (case l2 => k_is)
    (case c2 => k_is)
    (case k2 => k_is)
    (case a3 => k_is)
    (case l3 => k_is)
    (case c3 => k_is)
    (case k3 => k_is)
    (case a4 => k_is)
    (case l4 => k_is)
    (case c4 => k_is)
    (case k4 => k_is)
    (case a5 => k_is)
    (case l5 => k_is)
    (case c5 => k_is)
    (case k5 => k_is)
    (case a6 => k_is)
    (case l6 => k_is)
    (case c6 => k_is)
    (case k6 => k_is)
    (case a7 => k_is)
    (case l7 => k_is)
    (case c7 => k_is)
    (case k7 => k_is)
    (case a8 => k_is)
    (case l8 => k_is)
    (case c8 => k_is)
    (case k8 => k_is)
    (case a9 => k_is)
    (case l9 => k_is)
    (case c9 => k_is)
    (case k9 => k_is)
    (case a10 => k_is)
    (case l10 => k_is)
    (case c10 => k_is)
    (case k10 => k_is)
    (case a11 => k_is)
    (case l11 => k_is)
    (case c11 => k_is)
    (case k11 => k_is)
    (case a12 => k_is)
    (case l12 => k_is)
    (case c12 => k_is)
    (case k12 => k_is)
    (case a13 => k_is)
    (case l13 => k_is)
    (case c13 => k_is)
    (case k13 => k_is)
    (case a14 => k_is)
    (case l14 => k_is)
    (case c14 => k_is)
    (case k14 => k_is)
    (case a15 => k_is)
    (case l15 => k_is)
    (case c15 => k_is)
    (case k15 => k_is)
    (case a16 => k_is)
    (case l16 => k_is)
    (case c16 => k_is)
    (case k16 => k_is)
    (case a17 => k_is)
    (case l17 => k_is)
    (case c17 => k_is)
    (case k17 => k_is)
    (case a18 => k_is)
    (case l18 => k_is)
    (case c18 => k_is)
    (case k18 => k_is)
    (case a19 => k_is)
    (case l19 => k_is)
    (case c19 => k_is)
    (case k19 => k_is)
    (case a20 => k_is)
    (case l20 => k_is)
    (case c20 => k_is)
    (case k20 => k_is)
    (case a21 => k_is)
    (case l21 => k_is)
    (case c21 => k_is)
    (case k21 => k_is)
    (case a22 => k_is)
    (case l22 => k_is)
    (case c22 => k_is)
    (case k22 => k_is)
    (case a23 => k_is)
    (case l23 => k_is)
    (case c23 => k_is)
    (case k23 => k_is)
    (case a24 => k_is)
    (case l24 => k_is)
    (case c24 => k_is)
    (case k24 => k_is)
    (case a25 => k_is)
    (case l25 => k_is)
    (case c25 => k_is)
    (case k25 => k_is)
    (case a26 => k_is)
    (case l26 => k_is)
    (case c26 => k_is)
    (case k26 => k_is)
    (case a27 => k_is)
    (case l27 => k_is)
    (case c27 => k_is)
    (case k27 => k_is)
    (case a28 => k_is)
    (case l28 => k_is)
    (case c28 => k_is)
    (case k28 => k_is)
    (case a29 => k_is)
    (case l29 => k_is)
    (case c29 => k_is)
    (case k29 => k_is)
    (case a30 => k_is)
    (case l30 => k_is)
    (case c30 => k_is)
    (case k30 => k_is)
    (case zlen => k_is)
    (case zint => k_is)
    (case ztup => k_is)
    (case zlist => k_is)
    (case zbool => k_is)
    (case zstr => k_is)
    (case zmax => k_is)
    (case zmin => k_is)
    (case zsum => k_is)
    (case zsorted => k_is)
    (case zall => k_is)
    (case zany => k_is)
    (case zisi => k_is)
    (case zrange => k_is)
    (case zabs => k_is)
    (case zset => k_is)
