import PyProof.Rows.All
import Wide.All
import OpenK.AllK
import Wide.FinOn
import HandS.ForMost
import HandS.Deep
import HandS.IsInst
import HandS.TupAny
import HandS.Walk
import HandS.Evl
import HandS.TupMul
import HandS.SortRule
import HandS.Style
import KE.GoesEnum
import KE.KDictDisplayH
import PySem.Challenge.RW_askround_k73_whole_hidden_counts
import HandS.Zip
import KE.IntBitsLaws
set_option Elab.async false
set_option linter.all false
set_option maxRecDepth 100000
set_option maxHeartbeats 2000000
/-! AkE: what an expression gives, as data, in an environment of data (own layer over HandS). -/
namespace Ak
open PySem L2 Evl

abbrev Sg := L2.St
/-! ### data as it stands: tuples and lists that are tracked -/
mutual
inductive Dq (K : PySem.W.Frag) (H : Hp) : V → PyData → Prop
  | non : Dq K H .non .none
  | bl (b : Bool) : Dq K H (.bl b) (.bool b)
  | int (i : Int) : Dq K H (.int i) (.int i)
  | str (x : Str) : Dq K H (.str x) (.str x)
  | lst {a : Addr} {xs : List V} {ds : List PyData} : H a = some (.lst xs) → DqAll K H xs ds → Dq K H (.ref a) (.list ds)
  | tup {a : Addr} {xs : List V} {ds : List PyData} : H a = some (.tup xs) → DqAll K H xs ds → Dq K H (.ref a) (.tuple ds)
inductive DqAll (K : PySem.W.Frag) (H : Hp) : List V → List PyData → Prop
  | nil : DqAll K H [] []
  | cons {v : V} {vs : List V} {d : PyData} {ds : List PyData} : Dq K H v d → DqAll K H vs ds → DqAll K H (v :: vs) (d :: ds)
end
section
variable {K : PySem.W.Frag} {H : Hp}
mutual
theorem Dq.dp : ∀ (d : PyData) (v : V), Dq K H v d → Dp K H v d
  | .none, _, h => by cases h; exact .non
  | .bool b, _, h => by cases h; exact .bl b
  | .int i, _, h => by cases h; exact .int i
  | .str x, _, h => by cases h; exact .str x
  | .list ds, _, h => by
    cases h with
    | lst hs ha => exact .lst (SqL.of hs) (Dq.dps ds _ ha)
  | .tuple ds, _, h => by
    cases h with
    | tup hs ha => exact .tup (SqT.of hs) (Dq.dps ds _ ha)
  | .dict _, _, h => by cases h
theorem Dq.dps : ∀ (ds : List PyData) (vs : List V), DqAll K H vs ds → DpAll K H vs ds
  | [], _, h => by cases h; exact .nil
  | d :: ds, _, h => by
    cases h with
    | cons h1 h2 => exact .cons (Dq.dp d _ h1) (Dq.dps ds _ h2)
end
end
/-! ### data without lists -/
mutual
def tuO : PyData → Bool
  | .list _ => false
  | .dict _ => false
  | .tuple ds => tuOs ds
  | .none => true
  | .bool _ => true
  | .int _ => true
  | .str _ => true
def tuOs : List PyData → Bool
  | [] => true
  | d :: ds => tuO d && tuOs ds
end
theorem tuOs_map {α : Type} (f : α → PyData) (h : ∀ x, tuO (f x) = true) : ∀ xs : List α, tuOs (xs.map f) = true
  | [] => by simp [tuOs]
  | x :: xs => by simp [tuOs, h x, tuOs_map f h xs]
/-- tuples stay -/
def Tx (K : PySem.W.Frag) (H H' : Hp) : Prop := ∀ a xs, H a = some (.tup xs) → H' a = some (.tup xs)
theorem Tx.refl {K : PySem.W.Frag} (H : Hp) : Tx K H H := fun _ _ h => h
theorem Tx.trans {K : PySem.W.Frag} {H H1 H2 : Hp} (a : Tx K H H1) (b : Tx K H1 H2) : Tx K H H2 := fun p xs h => b p xs (a p xs h)
theorem Tx.of {K : PySem.W.Frag} {H H' : Hp} (e : Ex H H') : Tx K H H' := fun _ _ h => e _ _ h
/-- an object that is no tuple may change -/
theorem Tx.upd {K : PySem.W.Frag} {H : Hp} {a : Addr} {o : HO} (h : ∀ xs, H a ≠ some (.tup xs)) : Tx K H (upd H a o) := fun p xs q => by
  have ne : p ≠ a := fun z => h xs (by rw [← z]; exact q)
  rw [upd_ne ne]
  exact q
theorem noT_none {H : Hp} {a : Addr} (h : H a = none) (xs : List V) : H a ≠ some (.tup xs) := fun q => by rw [h] at q; cases q
theorem noT_lst {H : Hp} {a : Addr} {ys : List V} (h : H a = some (.lst ys)) (xs : List V) : H a ≠ some (.tup xs) := fun q => by rw [h] at q; cases q
theorem noT_dT {H : Hp} {a : Addr} {ys : List (List Key × V)} (h : H a = some (.dT ys)) (xs : List V) : H a ≠ some (.tup xs) := fun q => by rw [h] at q; cases q
section
variable {K : PySem.W.Frag} {H H' : Hp}
mutual
theorem dp_tx (e : Tx K H H') : ∀ (d : PyData) (v : V), tuO d = true → Dq K H v d → Dq K H' v d
  | .none, _, _, h => by cases h; exact .non
  | .bool b, _, _, h => by cases h; exact .bl b
  | .int i, _, _, h => by cases h; exact .int i
  | .str x, _, _, h => by cases h; exact .str x
  | .list ds, _, t, _ => by simp [tuO] at t
  | .tuple ds, _, t, h => by
    cases h with
    | tup hs ha => exact .tup (e _ _ hs) (dps_tx e ds _ (by simpa [tuO] using t) ha)
  | .dict _, _, t, _ => by simp [tuO] at t
theorem dps_tx (e : Tx K H H') : ∀ (ds : List PyData) (vs : List V), tuOs ds = true → DqAll K H vs ds → DqAll K H' vs ds
  | [], _, _, h => by cases h; exact .nil
  | d :: ds, _, t, h => by
    cases h with
    | cons h1 h2 =>
      simp only [tuOs, Bool.and_eq_true] at t
      exact .cons (dp_tx e d _ t.1 h1) (dps_tx e ds _ t.2 h2)
end
mutual
theorem dp_ex (e : Ex H H') : ∀ (d : PyData) (v : V), Dq K H v d → Dq K H' v d
  | .none, _, h => by cases h; exact .non
  | .bool b, _, h => by cases h; exact .bl b
  | .int i, _, h => by cases h; exact .int i
  | .str x, _, h => by cases h; exact .str x
  | .list ds, _, h => by
    cases h with
    | lst hs ha => exact .lst (e _ _ hs) (dps_ex e ds _ ha)
  | .tuple ds, _, h => by
    cases h with
    | tup hs ha => exact .tup (e _ _ hs) (dps_ex e ds _ ha)
  | .dict _, _, h => by cases h
theorem dps_ex (e : Ex H H') : ∀ (ds : List PyData) (vs : List V), DqAll K H vs ds → DqAll K H' vs ds
  | [], _, h => by cases h; exact .nil
  | d :: ds, _, h => by
    cases h with
    | cons h1 h2 => exact .cons (dp_ex e d _ h1) (dps_ex e ds _ h2)
end
theorem dps_len : ∀ {vs : List V} {ds : List PyData}, DqAll K H vs ds → vs.length = ds.length
  | _, _, .nil => rfl
  | _, _, .cons _ t => by simp [dps_len t]
theorem dps_get : ∀ {vs : List V} {ds : List PyData} {i : Nat} {d : PyData}, DqAll K H vs ds → ds[i]? = some d → ∃ v, vs[i]? = some v ∧ Dq K H v d
  | _, _, _, _, .nil, h => by simp at h
  | _, _, 0, _, .cons a _, h => by
    simp only [List.getElem?_cons_zero, Option.some.injEq] at h
    subst h
    exact ⟨_, rfl, a⟩
  | _, _, i + 1, _, .cons _ t, h => by
    obtain ⟨v, h1, h2⟩ := dps_get (i := i) t (by simpa using h)
    exact ⟨v, by simpa using h1, h2⟩
theorem dps_get' : ∀ {vs : List V} {ds : List PyData} {i : Nat} {v : V}, DqAll K H vs ds → vs[i]? = some v → ∃ d, ds[i]? = some d ∧ Dq K H v d
  | _, _, _, _, .nil, h => by simp at h
  | _, _, 0, _, .cons a _, h => by
    simp only [List.getElem?_cons_zero, Option.some.injEq] at h
    subst h
    exact ⟨_, rfl, a⟩
  | _, _, i + 1, _, .cons _ t, h => by
    obtain ⟨v, h1, h2⟩ := dps_get' (i := i) t (by simpa using h)
    exact ⟨v, by simpa using h1, h2⟩
theorem dps_app : ∀ {vs ws : List V} {ds es : List PyData}, DqAll K H vs ds → DqAll K H ws es → DqAll K H (vs ++ ws) (ds ++ es)
  | _, _, _, _, .nil, h => h
  | _, _, _, _, .cons a t, h => .cons a (dps_app t h)
theorem dps_drop : ∀ {vs : List V} {ds : List PyData} (n : Nat), DqAll K H vs ds → DqAll K H (vs.drop n) (ds.drop n)
  | _, _, 0, h => h
  | _, _, _ + 1, .nil => .nil
  | _, _, n + 1, .cons _ t => dps_drop n t
theorem dps_take : ∀ {vs : List V} {ds : List PyData} (n : Nat), DqAll K H vs ds → DqAll K H (vs.take n) (ds.take n)
  | _, _, 0, _ => .nil
  | _, _, _ + 1, .nil => .nil
  | _, _, n + 1, .cons a t => .cons a (dps_take n t)
theorem dps_erase : ∀ {vs : List V} {ds : List PyData} (n : Nat), DqAll K H vs ds → DqAll K H (vs.eraseIdx n) (ds.eraseIdx n)
  | _, _, _, .nil => .nil
  | _, _, 0, .cons _ t => t
  | _, _, n + 1, .cons a t => .cons a (dps_erase n t)
theorem dps_set : ∀ {vs : List V} {ds : List PyData} {v : V} {d : PyData} (n : Nat), DqAll K H vs ds → Dq K H v d → DqAll K H (vs.set n v) (ds.set n d)
  | _, _, _, _, _, .nil, _ => .nil
  | _, _, _, _, 0, .cons _ t, h => .cons h t
  | _, _, _, _, n + 1, .cons a t, h => .cons a (dps_set n t h)
theorem dps_ints : ∀ {vs : List V} {ns : List Int}, DqAll K H vs (ns.map .int) → vs = ns.map V.int
  | vs, [], h => by cases h; rfl
  | vs, n :: ns, h => by
    rw [List.map_cons] at h
    cases h with
    | cons a t => cases a; rw [dps_ints t]; rfl
theorem ints_dps : ∀ (ns : List Int), DqAll K H (ns.map V.int) (ns.map .int)
  | [] => .nil
  | n :: ns => .cons (.int n) (ints_dps ns)
theorem dps_bls : ∀ {vs : List V} {ns : List Bool}, DqAll K H vs (ns.map .bool) → vs = ns.map V.bl
  | vs, [], h => by cases h; rfl
  | vs, n :: ns, h => by
    rw [List.map_cons] at h
    cases h with
    | cons a t => cases a; rw [dps_bls t]; rfl
theorem dp_int {v : V} {i : Int} (h : Dq K H v (.int i)) : v = .int i := by cases h; rfl
theorem dp_bl {v : V} {b : Bool} (h : Dq K H v (.bool b)) : v = .bl b := by cases h; rfl
theorem dp_str {v : V} {x : Str} (h : Dq K H v (.str x)) : v = .str x := by cases h; rfl
theorem dp_non {v : V} (h : Dq K H v .none) : v = .non := by cases h; rfl
theorem dp_tup {v : V} {ds : List PyData} (h : Dq K H v (.tuple ds)) : ∃ a xs, v = .ref a ∧ H a = some (.tup xs) ∧ DqAll K H xs ds := by
  cases h with
  | tup a b => exact ⟨_, _, rfl, a, b⟩
theorem dp_lst {v : V} {ds : List PyData} (h : Dq K H v (.list ds)) : ∃ a xs, v = .ref a ∧ H a = some (.lst xs) ∧ DqAll K H xs ds := by
  cases h with
  | lst a b => exact ⟨_, _, rfl, a, b⟩
end

/-! ### the environment: what is known of each slot -/
inductive En where
  | no
  | v (x : V)
  | d (x : PyData)
def Eok (K : PySem.W.Frag) (H : Hp) : En → Option (Option V) → Prop
  | .no, _ => True
  | .v x, o => o = some (some x)
  | .d x, o => ∃ v, o = some (some v) ∧ Dq K H v x
abbrev Env1 := List En
structure Sl (K : PySem.W.Frag) (H : Hp) (σ : Sg) (Γ : Env1) : Prop where
  len : σ.length = Γ.length
  get : ∀ (i : Nat) (e : En), Γ[i]? = some e → Eok K H e σ[i]?
def En.ok : En → Bool
  | .d x => tuO x
  | _ => true
section
variable {K : PySem.W.Frag} {H H' : Hp} {σ : Sg} {Γ : Env1}
theorem Eok.ex {e : En} {o : Option (Option V)} (h : Eok K H e o) (x : Ex H H') : Eok K H' e o := by
  cases e with
  | no => exact True.intro
  | v y => exact h
  | d y =>
    obtain ⟨v, a, b⟩ := h
    exact ⟨v, a, dp_ex x _ _ b⟩
theorem Eok.tx {e : En} {o : Option (Option V)} (h : Eok K H e o) (t : e.ok = true) (x : Tx K H H') : Eok K H' e o := by
  cases e with
  | no => exact True.intro
  | v y => exact h
  | d y =>
    obtain ⟨v, a, b⟩ := h
    exact ⟨v, a, dp_tx x _ _ t b⟩
theorem Sl.ex (s : Sl K H σ Γ) (x : Ex H H') : Sl K H' σ Γ := ⟨s.len, fun i e h => (s.get i e h).ex x⟩
theorem Sl.tx (s : Sl K H σ Γ) (t : Γ.all En.ok = true) (x : Tx K H H') : Sl K H' σ Γ := ⟨s.len, fun i e h => (s.get i e h).tx (List.all_eq_true.mp t e (List.mem_of_getElem? h)) x⟩
theorem Sl.set (s : Sl K H σ Γ) {i : Nat} {v : V} {e : En} (h : Eok K H e (some (some v))) : Sl K H (σ.set i (some v)) (Γ.set i e) := by
  refine ⟨by rw [List.length_set, List.length_set]; exact s.len, fun j f hj => ?_⟩
  by_cases q : i = j
  · subst q
    by_cases hl : i < Γ.length
    · rw [List.getElem?_set_self hl] at hj
      cases hj
      rw [List.getElem?_set_self (by rw [s.len]; exact hl)]
      exact h
    · rw [List.getElem?_eq_none (by rw [List.length_set]; omega)] at hj
      cases hj
  · rw [List.getElem?_set_ne q] at hj
    rw [List.getElem?_set_ne q]
    exact s.get j f hj
theorem Sl.setD (s : Sl K H σ Γ) {i : Nat} {v : V} {d : PyData} (h : Dq K H v d) : Sl K H (σ.set i (some v)) (Γ.set i (.d d)) := s.set ⟨v, rfl, h⟩
theorem Sl.setV (s : Sl K H σ Γ) {i : Nat} {v : V} : Sl K H (σ.set i (some v)) (Γ.set i (.v v)) := s.set rfl
theorem Sl.setN (s : Sl K H σ Γ) {i : Nat} {o : Option V} : Sl K H (σ.set i o) (Γ.set i .no) := by
  refine ⟨by rw [List.length_set, List.length_set]; exact s.len, fun j f hj => ?_⟩
  by_cases q : i = j
  · subst q
    by_cases hl : i < Γ.length
    · rw [List.getElem?_set_self hl] at hj
      cases hj
      exact True.intro
    · rw [List.getElem?_eq_none (by rw [List.length_set]; omega)] at hj
      cases hj
  · rw [List.getElem?_set_ne q] at hj
    rw [List.getElem?_set_ne q]
    exact s.get j f hj
/-- an entry forgotten, or put in another way -/
theorem Sl.weak (s : Sl K H σ Γ) {Δ : Env1} (hl : Δ.length = Γ.length) (h : ∀ (i : Nat) (e : En), Δ[i]? = some e → Γ[i]? = some e ∨ e = .no) : Sl K H σ Δ :=
  ⟨s.len.trans hl.symm, fun i e q => by
    rcases h i e q with z | z
    · exact s.get i e z
    · subst z; exact True.intro⟩
theorem Sl.val (s : Sl K H σ Γ) {i : Nat} {v : V} (h : Γ[i]? = some (.v v)) : σ[i]? = some (some v) := s.get i _ h
theorem Sl.dat (s : Sl K H σ Γ) {i : Nat} {d : PyData} (h : Γ[i]? = some (.d d)) : ∃ v, σ[i]? = some (some v) ∧ Dq K H v d := s.get i _ h
def noEn (n : Nat) : Env1 := List.replicate n .no
theorem sl_start : ∀ {vs : List V} {ds : List PyData}, DqAll K H vs ds → ∀ n : Nat, Sl K H (vs.map some ++ List.replicate n none) (ds.map .d ++ noEn n) := by
  intro vs ds h n
  have hl := dps_len h
  refine ⟨by simp [noEn, hl], fun i e he => ?_⟩
  by_cases hi : i < ds.length
  · rw [List.getElem?_append_left (by simpa using hi), List.getElem?_map] at he
    rw [List.getElem?_append_left (by simpa [hl] using hi), List.getElem?_map]
    cases hd : ds[i]? with
    | none => rw [hd] at he; cases he
    | some d =>
      rw [hd] at he
      cases he
      obtain ⟨v, h1, h2⟩ := dps_get h hd
      rw [h1]
      exact ⟨v, rfl, h2⟩
  · rw [List.getElem?_append_right (by simpa using hi)] at he
    unfold noEn at he
    have := List.mem_of_getElem? he
    rw [List.mem_replicate] at this
    rw [this.2]
    exact True.intro
def wipeG (Γ : Env1) : List Nat → Env1
  | [] => Γ
  | v :: vs => (wipeG Γ vs).set v .no
theorem Sl.wipe (s : Sl K H σ Γ) : ∀ vs : List Nat, Sl K H (wipe σ vs) (wipeG Γ vs)
  | [] => s
  | v :: vs => (Sl.wipe s vs).setN
theorem wipe_get (σ : Sg) : ∀ (vs : List Nat) (i : Nat), (L2.wipe σ vs)[i]? = if i ∈ vs ∧ i < σ.length then some none else σ[i]?
  | [], i => by simp [L2.wipe]
  | v :: vs, i => by
    unfold L2.wipe
    by_cases h : v = i
    · subst h
      by_cases hl : v < σ.length
      · rw [List.getElem?_set_self (by rw [wipe_length]; exact hl), if_pos ⟨List.mem_cons_self, hl⟩]
      · rw [if_neg (fun z => hl z.2), List.getElem?_eq_none (by rw [List.length_set, wipe_length]; omega), List.getElem?_eq_none (by omega)]
    · rw [List.getElem?_set_ne h, wipe_get σ vs i]
      have : (i ∈ v :: vs) ↔ i ∈ vs := by simp [Ne.symm h]
      simp only [this]
theorem wipe_set {σ : Sg} {vs : List Nat} {j : Nat} {x : Option V} (hj : j ∈ vs) : L2.wipe (σ.set j x) vs = L2.wipe σ vs := by
  refine List.ext_getElem? fun i => ?_
  rw [wipe_get, wipe_get, List.length_set]
  by_cases h : i ∈ vs ∧ i < σ.length
  · rw [if_pos h, if_pos h]
  · rw [if_neg h, if_neg h]
    by_cases q : j = i
    · subst q
      have hl : σ.length ≤ j := Nat.le_of_not_lt fun z => h ⟨hj, z⟩
      rw [List.getElem?_eq_none (by rw [List.length_set]; exact hl), List.getElem?_eq_none hl]
    · rw [List.getElem?_set_ne q]
theorem wipe_wipe {σ : Sg} {vs : List Nat} : L2.wipe (L2.wipe σ vs) vs = L2.wipe σ vs := by
  refine List.ext_getElem? fun i => ?_
  rw [wipe_get, wipe_length, wipe_get]
  by_cases h : i ∈ vs ∧ i < σ.length
  · rw [if_pos h, if_pos h]
  · rw [if_neg h]
end

/-! ### judgements: in Γ (over a base heap H0 that stands) te gives data d -/
def Eh (K : PySem.W.Frag) (H0 : Hp) (Γ : Env1) (te : TE) (d : PyData) : Prop := ∀ (σ : Sg) (H : Hp), Ex H0 H → Sl K H σ Γ → ∀ Q : VK, (∀ v H1, Ex H H1 → Dq K H1 v d → Q v H1) → te σ H Q
/-- .. some data of which P is true -/
def Ph (K : PySem.W.Frag) (H0 : Hp) (Γ : Env1) (te : TE) (P : PyData → Prop) : Prop := ∀ (σ : Sg) (H : Hp), Ex H0 H → Sl K H σ Γ → ∀ Q : VK, (∀ v d H1, Ex H H1 → Dq K H1 v d → P d → Q v H1) → te σ H Q
/-- a new list of such -/
def Lh (K : PySem.W.Frag) (H0 : Hp) (Γ : Env1) (te : TE) (ds : List PyData) : Prop := ∀ (σ : Sg) (H : Hp), Ex H0 H → Sl K H σ Γ → ∀ Q : VK, (∀ p xs H1, H p = none → Ex H H1 → H1 p = some (.lst xs) → DqAll K H1 xs ds → Q (.ref p) H1) → te σ H Q
def Bh (K : PySem.W.Frag) (H0 : Hp) (Γ : Env1) (tt : TT) (b : Bool) : Prop := ∀ (σ : Sg) (H : Hp), Ex H0 H → Sl K H σ Γ → ∀ Q : Bool → Hp → Prop, (∀ H1, Ex H H1 → Q b H1) → tt σ H Q
def Ah (K : PySem.W.Frag) (H0 : Hp) (Γ : Env1) (ta : TA) (ds : List PyData) : Prop := ∀ (σ : Sg) (H : Hp), Ex H0 H → Sl K H σ Γ → ∀ Q : List V → Hp → Prop, (∀ vs H1, Ex H H1 → DqAll K H1 vs ds → Q vs H1) → ta σ H Q
def Oh (K : PySem.W.Frag) (H0 : Hp) (Γ : Env1) (to : TO) (o : Option Int) : Prop := ∀ (σ : Sg) (H : Hp), Ex H0 H → Sl K H σ Γ → ∀ Q : Option Int → Hp → Prop, (∀ H1, Ex H H1 → Q o H1) → to σ H Q

section
variable {K : PySem.W.Frag} {H0 : Hp} {Γ : Env1} {ta tb tc te : TE} {t u : TT} {d e : PyData} {i j : Int} {a b : Bool}
theorem Eh.ph {P : PyData → Prop} (h : Eh K H0 Γ te d) (p : P d) : Ph K H0 Γ te P := fun σ H e0 s Q q => h σ H e0 s Q fun v H1 e1 h1 => q v d H1 e1 h1 p
theorem Ph.eh (h : Ph K H0 Γ te fun x => x = d) : Eh K H0 Γ te d := fun σ H e0 s Q q => h σ H e0 s Q fun v x H1 e1 h1 p => q v H1 e1 (by rw [← p]; exact h1)
theorem Lh.eh {ds : List PyData} (h : Lh K H0 Γ te ds) : Eh K H0 Γ te (.list ds) := fun σ H e0 s Q q => h σ H e0 s Q fun p xs H1 _ e1 h1 h2 => q _ H1 e1 (.lst h1 h2)
theorem Eh.to (h : Eh K H0 Γ te d) (q : d = e) : Eh K H0 Γ te e := by rw [← q]; exact h
theorem Bh.to (h : Bh K H0 Γ t a) (q : a = b) : Bh K H0 Γ t b := by rw [← q]; exact h
theorem Lh.to {ds es : List PyData} (h : Lh K H0 Γ te ds) (q : ds = es) : Lh K H0 Γ te es := by rw [← q]; exact h
theorem e_var {n : Nat} (h : Γ[n]? = some (.d d)) : Eh K H0 Γ (tVar n) d := fun σ H _ s Q q => by
  obtain ⟨v, h1, h2⟩ := s.dat h
  exact ⟨v, h1, q v H (Ex.refl H) h2⟩
theorem e_int : Eh K H0 Γ (tC (.int i)) (.int i) := fun _ H _ _ Q q => q _ H (Ex.refl H) (.int i)
theorem e_bl : Eh K H0 Γ (tC (.bl a)) (.bool a) := fun _ H _ _ Q q => q _ H (Ex.refl H) (.bl a)
theorem e_str {x : Str} : Eh K H0 Γ (tC (.str x)) (.str x) := fun _ H _ _ Q q => q _ H (Ex.refl H) (.str x)
theorem e_non : Eh K H0 Γ (tC .non) .none := fun _ H _ _ Q q => q _ H (Ex.refl H) .non
/-- two operands: their data at one heap -/
theorem bin2 (ha : Eh K H0 Γ ta d) (hb : Eh K H0 Γ tb e) {σ : Sg} {H : Hp} (e0 : Ex H0 H) (s : Sl K H σ Γ) {R : V → V → Hp → Prop} (q : ∀ v w H2, Ex H H2 → Dq K H2 v d → Dq K H2 w e → R v w H2) :
    ta σ H fun x H1 => tb σ H1 fun y H2 => R x y H2 :=
  ha σ H e0 s _ fun v H1 e1 h1 => hb σ H1 (e0.trans e1) (s.ex e1) _ fun w H2 e2 h2 => q v w H2 (e1.trans e2) (dp_ex e2 _ _ h1) h2
theorem e_rI0 {g : Int → Int → V} (ha : Eh K H0 Γ ta (.int i)) (hb : Eh K H0 Γ tb (.int j)) (hd : ∀ H, Dq K H (g i j) d) : Eh K H0 Γ (tOp (rI0 g) ta tb) d := fun σ H e0 s Q q =>
  bin2 ha hb e0 s fun v w H2 e2 h1 h2 => ⟨i, j, dp_int h1, dp_int h2, q _ H2 e2 (hd H2)⟩
theorem e_rI {C : Int → Int → Prop} {g : Int → Int → V} (ha : Eh K H0 Γ ta (.int i)) (hb : Eh K H0 Γ tb (.int j)) (hc : C i j) (hd : ∀ H, Dq K H (g i j) d) : Eh K H0 Γ (tOp (rI C g) ta tb) d := fun σ H e0 s Q q =>
  bin2 ha hb e0 s fun v w H2 e2 h1 h2 => ⟨i, j, dp_int h1, dp_int h2, hc, q _ H2 e2 (hd H2)⟩
theorem e_add (ha : Eh K H0 Γ ta (.int i)) (hb : Eh K H0 Γ tb (.int j)) : Eh K H0 Γ (tOp (rI0 fun i j => .int (i + j)) ta tb) (.int (i + j)) := e_rI0 ha hb fun _ => .int _
theorem e_sub (ha : Eh K H0 Γ ta (.int i)) (hb : Eh K H0 Γ tb (.int j)) : Eh K H0 Γ (tOp (rI0 fun i j => .int (i - j)) ta tb) (.int (i - j)) := e_rI0 ha hb fun _ => .int _
theorem e_lt (ha : Eh K H0 Γ ta (.int i)) (hb : Eh K H0 Γ tb (.int j)) : Eh K H0 Γ (tOp (rI0 fun i j => .bl (decide (i < j))) ta tb) (.bool (decide (i < j))) := e_rI0 ha hb fun _ => .bl _
theorem e_le (ha : Eh K H0 Γ ta (.int i)) (hb : Eh K H0 Γ tb (.int j)) : Eh K H0 Γ (tOp (rI0 fun i j => .bl (decide (i ≤ j))) ta tb) (.bool (decide (i ≤ j))) := e_rI0 ha hb fun _ => .bl _
theorem e_gt (ha : Eh K H0 Γ ta (.int i)) (hb : Eh K H0 Γ tb (.int j)) : Eh K H0 Γ (tOp (rI0 fun i j => .bl (decide (j < i))) ta tb) (.bool (decide (j < i))) := e_rI0 ha hb fun _ => .bl _
theorem e_ge (ha : Eh K H0 Γ ta (.int i)) (hb : Eh K H0 Γ tb (.int j)) : Eh K H0 Γ (tOp (rI0 fun i j => .bl (decide (j ≤ i))) ta tb) (.bool (decide (j ≤ i))) := e_rI0 ha hb fun _ => .bl _
theorem e_mul (ha : Eh K H0 Γ ta (.int i)) (hb : Eh K H0 Γ tb (.int j)) (hc : CMul i j) : Eh K H0 Γ (tOp (rI CMul fun i j => .int (i * j)) ta tb) (.int (i * j)) := e_rI ha hb hc fun _ => .int _
theorem e_mod (ha : Eh K H0 Γ ta (.int i)) (hb : Eh K H0 Γ tb (.int j)) (hc : 0 < j) : Eh K H0 Γ (tOp (rI (fun _ j => 0 < j) fun i j => .int (i % j)) ta tb) (.int (i % j)) := e_rI ha hb hc fun _ => .int _
theorem e_fdiv (ha : Eh K H0 Γ ta (.int i)) (hb : Eh K H0 Γ tb (.int j)) (hc : CDiv i j) : Eh K H0 Γ (tOp (rI CDiv fun i j => .int (i / j)) ta tb) (.int (i / j)) := e_rI ha hb hc fun _ => .int _
theorem e_eqI (ha : Eh K H0 Γ ta (.int i)) (hb : Eh K H0 Γ tb (.int j)) : Eh K H0 Γ (tOp rEq ta tb) (.bool (decide (i = j))) := fun σ H e0 s Q q =>
  bin2 ha hb e0 s fun v w H2 e2 h1 h2 => by
    cases dp_int h1
    cases dp_int h2
    refine ⟨rfl, ?_⟩
    have e : decide (V.int i = V.int j) = decide (i = j) := by simp
    rw [e]
    exact q _ H2 e2 (.bl _)
theorem e_neI (ha : Eh K H0 Γ ta (.int i)) (hb : Eh K H0 Γ tb (.int j)) : Eh K H0 Γ (tOp rNe ta tb) (.bool (!decide (i = j))) := fun σ H e0 s Q q =>
  bin2 ha hb e0 s fun v w H2 e2 h1 h2 => by
    cases dp_int h1
    cases dp_int h2
    refine ⟨rfl, ?_⟩
    have e : decide (V.int i = V.int j) = decide (i = j) := by simp
    rw [e]
    exact q _ H2 e2 (.bl _)
theorem e_eqB (ha : Eh K H0 Γ ta (.bool a)) (hb : Eh K H0 Γ tb (.bool b)) : Eh K H0 Γ (tOp rEq ta tb) (.bool (decide (a = b))) := fun σ H e0 s Q q =>
  bin2 ha hb e0 s fun v w H2 e2 h1 h2 => by
    cases dp_bl h1
    cases dp_bl h2
    refine ⟨rfl, ?_⟩
    have e : decide (V.bl a = V.bl b) = decide (a = b) := by simp
    rw [e]
    exact q _ H2 e2 (.bl _)
theorem e_neB (ha : Eh K H0 Γ ta (.bool a)) (hb : Eh K H0 Γ tb (.bool b)) : Eh K H0 Γ (tOp rNe ta tb) (.bool (!decide (a = b))) := fun σ H e0 s Q q =>
  bin2 ha hb e0 s fun v w H2 e2 h1 h2 => by
    cases dp_bl h1
    cases dp_bl h2
    refine ⟨rfl, ?_⟩
    have e : decide (V.bl a = V.bl b) = decide (a = b) := by simp
    rw [e]
    exact q _ H2 e2 (.bl _)
theorem e_eqS {x y : Str} (ha : Eh K H0 Γ ta (.str x)) (hb : Eh K H0 Γ tb (.str y)) : Eh K H0 Γ (tOp rEq ta tb) (.bool (decide (x = y))) := fun σ H e0 s Q q =>
  bin2 ha hb e0 s fun v w H2 e2 h1 h2 => by
    cases dp_str h1
    cases dp_str h2
    refine ⟨rfl, ?_⟩
    have e : decide (V.str x = V.str y) = decide (x = y) := by simp
    rw [e]
    exact q _ H2 e2 (.bl _)
theorem e_eqD (ha : Eh K H0 Γ ta d) (hb : Eh K H0 Γ tb e) (sd : SeqAt.shaped d = true) (se : SeqAt.shaped e = true) : Eh K H0 Γ (tOp (rEqD K) ta tb) (.bool (PyData.eqv d e)) := fun σ H e0 s Q q =>
  bin2 ha hb e0 s fun v w H2 e2 h1 h2 => ⟨d, e, Dq.dp _ _ h1, Dq.dp _ _ h2, sd, se, q _ H2 e2 (.bl _)⟩
theorem e_neD (ha : Eh K H0 Γ ta d) (hb : Eh K H0 Γ tb e) (sd : SeqAt.shaped d = true) (se : SeqAt.shaped e = true) : Eh K H0 Γ (tOp (rNeD K) ta tb) (.bool (!PyData.eqv d e)) := fun σ H e0 s Q q =>
  bin2 ha hb e0 s fun v w H2 e2 h1 h2 => ⟨d, e, Dq.dp _ _ h1, Dq.dp _ _ h2, sd, se, q _ H2 e2 (.bl _)⟩
theorem dps_atI {H : Hp} {vs : List V} {ds : List PyData} (h : DqAll K H vs ds) (q : atI ds i = some d) : ∃ v, atI vs i = some v ∧ Dq K H v d := by
  unfold atI at q ⊢
  rw [dps_len h]
  cases hx : ixN ds.length i with
  | none => rw [hx] at q; cases q
  | some k =>
    rw [hx] at q
    obtain ⟨v, h1, h2⟩ := dps_get h (show ds[k]? = some d from q)
    exact ⟨v, h1, h2⟩
theorem e_ixT {ds : List PyData} (ha : Eh K H0 Γ ta (.tuple ds)) (hb : Eh K H0 Γ tb (.int i)) (hi : atI ds i = some d) : Eh K H0 Γ (tOp (rIxT K) ta tb) d := fun σ H e0 s Q q =>
  bin2 ha hb e0 s fun v w H2 e2 h1 h2 => by
    obtain ⟨p, xs, rfl, h3, h4⟩ := dp_tup h1
    obtain ⟨y, h5, h6⟩ := dps_atI h4 hi
    exact ⟨p, xs, i, y, rfl, dp_int h2, SqT.of h3, h5, q _ H2 e2 h6⟩
theorem e_ixL {ds : List PyData} (ha : Eh K H0 Γ ta (.list ds)) (hb : Eh K H0 Γ tb (.int i)) (hi : atI ds i = some d) : Eh K H0 Γ (tOp (rIxL K) ta tb) d := fun σ H e0 s Q q =>
  bin2 ha hb e0 s fun v w H2 e2 h1 h2 => by
    obtain ⟨p, xs, rfl, h3, h4⟩ := dp_lst h1
    obtain ⟨y, h5, h6⟩ := dps_atI h4 hi
    exact ⟨p, xs, i, y, rfl, dp_int h2, SqL.of h3, h5, q _ H2 e2 h6⟩
theorem e_neg (ha : Eh K H0 Γ ta (.int i)) : Eh K H0 Γ (tUn (rU fun i => .int (-i)) ta) (.int (-i)) := fun σ H e0 s Q q =>
  ha σ H e0 s _ fun v H1 e1 h1 => ⟨i, dp_int h1, q _ H1 e1 (.int _)⟩
theorem e_isN (ha : Eh K H0 Γ ta d) (hd : d = .none ∨ ∃ ds, d = .tuple ds) {tn : TE} (hn : Eh K H0 Γ tn .none) : Eh K H0 Γ (tOp (fun x y H Q => y = V.non ∧ Q (.bl (!decide (x = V.non))) H) ta tn) (.bool (match d with | .none => false | _ => true)) := fun σ H e0 s Q q =>
  bin2 ha hn e0 s fun v w H2 e2 h1 h2 => by
    cases dp_non h2
    refine ⟨rfl, ?_⟩
    rcases hd with rfl | ⟨ds, rfl⟩
    · cases dp_non h1
      exact q _ H2 e2 (.bl _)
    · obtain ⟨p, xs, rfl, _⟩ := dp_tup h1
      exact q _ H2 e2 (.bl _)

/-! tests -/
theorem b_test (h : Eh K H0 Γ te (.bool a)) : Bh K H0 Γ (tTest te) a := fun σ H e0 s Q q => h σ H e0 s _ fun v H1 e1 h1 => ⟨a, dp_bl h1, q H1 e1⟩
theorem b_B (h : Eh K H0 Γ te (.bool a)) : Bh K H0 Γ (tB te) a := fun σ H e0 s Q q => h σ H e0 s _ fun v H1 e1 h1 => ⟨a, dp_bl h1, q H1 e1⟩
theorem b_yes : Bh K H0 Γ tYes true := fun σ H _ _ Q q => q H (Ex.refl H)
theorem b_and (h1 : Bh K H0 Γ t a) (h2 : a = true → Bh K H0 Γ u b) : Bh K H0 Γ (tAnd t u) (a && b) := fun σ H e0 s Q q => h1 σ H e0 s _ fun H1 e1 => by
  cases a with
  | true =>
    show u σ H1 Q
    exact h2 rfl σ H1 (e0.trans e1) (s.ex e1) Q fun H2 e2 => q H2 (e1.trans e2)
  | false =>
    show Q false H1
    exact q H1 e1
theorem b_or (h1 : Bh K H0 Γ t a) (h2 : a = false → Bh K H0 Γ u b) : Bh K H0 Γ (tOr t u) (a || b) := fun σ H e0 s Q q => h1 σ H e0 s _ fun H1 e1 => by
  cases a with
  | true =>
    show Q true H1
    exact q H1 e1
  | false =>
    show u σ H1 Q
    exact h2 rfl σ H1 (e0.trans e1) (s.ex e1) Q fun H2 e2 => q H2 (e1.trans e2)
theorem b_not (h1 : Bh K H0 Γ t a) : Bh K H0 Γ (tNot t) (!a) := fun σ H e0 s Q q => h1 σ H e0 s _ fun H1 e1 => q H1 e1
theorem e_and (h1 : Eh K H0 Γ ta (.bool a)) (h2 : a = true → Eh K H0 Γ tb (.bool b)) : Eh K H0 Γ (tAndV ta tb) (.bool (a && b)) := fun σ H e0 s Q q => h1 σ H e0 s _ fun v H1 e1 d1 => ⟨a, dp_bl d1, by
  cases a with
  | true =>
    show tb σ H1 Q
    exact h2 rfl σ H1 (e0.trans e1) (s.ex e1) Q fun w H2 e2 d2 => q w H2 (e1.trans e2) d2
  | false =>
    show Q (.bl false) H1
    exact q _ H1 e1 (.bl _)⟩
theorem e_not (h1 : Eh K H0 Γ ta (.bool a)) : Eh K H0 Γ (tNotV ta) (.bool (!a)) := fun σ H e0 s Q q => h1 σ H e0 s _ fun v H1 e1 d1 => ⟨a, dp_bl d1, q _ H1 e1 (.bl _)⟩
theorem e_if (h : Bh K H0 Γ t a) (h1 : a = true → Eh K H0 Γ ta d) (h2 : a = false → Eh K H0 Γ tb d) : Eh K H0 Γ (tIf t ta tb) d := fun σ H e0 s Q q => h σ H e0 s _ fun H1 e1 => by
  cases a with
  | true =>
    show ta σ H1 Q
    exact h1 rfl σ H1 (e0.trans e1) (s.ex e1) Q fun v H2 e2 => q v H2 (e1.trans e2)
  | false =>
    show tb σ H1 Q
    exact h2 rfl σ H1 (e0.trans e1) (s.ex e1) Q fun v H2 e2 => q v H2 (e1.trans e2)
/-- a <= b <= c of ints -/
theorem e_chain {k : Int} (ha : Eh K H0 Γ ta (.int i)) (hb : Eh K H0 Γ tb (.int j)) (hc : Eh K H0 Γ tc (.int k)) :
    Eh K H0 Γ (tChain (rI0 fun i j => .bl (decide (i ≤ j))) (rI0 fun i j => .bl (decide (i ≤ j))) ta tb tc) (.bool (decide (i ≤ j) && decide (j ≤ k))) := fun σ H e0 s Q q =>
  bin2 ha hb e0 s fun v w H2 e2 h1 h2 => ⟨i, j, dp_int h1, dp_int h2, _, rfl, by
    cases hx : decide (i ≤ j) with
    | true =>
      rw [if_pos rfl]
      refine hc σ H2 (e0.trans e2) (s.ex e2) _ fun x H3 e3 h3 => ⟨j, k, dp_int h2, dp_int h3, ?_⟩
      rw [hx, Bool.true_and] at q
      exact q _ H3 (e2.trans e3) (.bl _)
    | false =>
      rw [if_neg Bool.false_ne_true]
      rw [hx, Bool.false_and] at q
      exact q _ H2 e2 (.bl _)⟩

/-! arguments, displays -/
theorem a_nil : Ah K H0 Γ tNil [] := fun _ H _ _ Q q => q _ H (Ex.refl H) .nil
theorem a_cons {tr : TA} {ds : List PyData} (h : Eh K H0 Γ te d) (hr : Ah K H0 Γ tr ds) : Ah K H0 Γ (tCons te tr) (d :: ds) := fun σ H e0 s Q q =>
  h σ H e0 s _ fun v H1 e1 h1 => hr σ H1 (e0.trans e1) (s.ex e1) _ fun vs H2 e2 h2 => q _ H2 (e1.trans e2) (.cons (dp_ex e2 _ _ h1) h2)
theorem e_tup {tr : TA} {ds : List PyData} (h : Ah K H0 Γ tr ds) (hl : ds.length ≤ 100000) : Eh K H0 Γ (tTup tr) (.tuple ds) := fun σ H e0 s Q q =>
  h σ H e0 s _ fun vs H1 e1 h1 => ⟨by rw [dps_len h1]; exact sz_of hl, fun p hp => q _ _ (e1.trans (Ex.new hp)) (.tup upd_same (dps_ex (Ex.new hp) _ _ h1))⟩
theorem l_lst {tr : TA} {ds : List PyData} (h : Ah K H0 Γ tr ds) (hl : ds.length ≤ 100000) : Lh K H0 Γ (tLst tr) ds := fun σ H e0 s Q q =>
  h σ H e0 s _ fun vs H1 e1 h1 => ⟨by rw [dps_len h1]; exact sz_of hl, fun p hp => q _ _ _ (fresh_back e1 hp) (e1.trans (Ex.new hp)) upd_same (dps_ex (Ex.new hp) _ _ h1)⟩
/-- a call of a built-in, one argument, by values -/
theorem e_cb1 {r : List V → Hp → VK → Prop} (ha : Eh K H0 Γ ta d) (hr : ∀ v H Q, Dq K H v d → (∀ w H1, Ex H H1 → Dq K H1 w e → Q w H1) → r [v] H Q) : Eh K H0 Γ (tCB r (tCons ta tNil)) e := fun σ H e0 s Q q =>
  ha σ H e0 s _ fun v H1 e1 h1 => hr v H1 Q h1 fun w H2 e2 h2 => q w H2 (e1.trans e2) h2
theorem e_lenT {ds : List PyData} (ha : Eh K H0 Γ ta (.tuple ds)) : Eh K H0 Γ (tCB (rLenS K) (tCons ta tNil)) (.int (ds.length : Int)) := e_cb1 ha fun v H Q h q => by
  obtain ⟨p, xs, rfl, h3, h4⟩ := dp_tup h
  exact ⟨p, xs, rfl, .inr (SqT.of h3), by rw [dps_len h4]; exact q _ H (Ex.refl H) (.int _)⟩
theorem e_lenL {ds : List PyData} (ha : Eh K H0 Γ ta (.list ds)) : Eh K H0 Γ (tCB (rLenS K) (tCons ta tNil)) (.int (ds.length : Int)) := e_cb1 ha fun v H Q h q => by
  obtain ⟨p, xs, rfl, h3, h4⟩ := dp_lst h
  exact ⟨p, xs, rfl, .inl (SqL.of h3), by rw [dps_len h4]; exact q _ H (Ex.refl H) (.int _)⟩
def rTupOf (K : PySem.W.Frag) : List V → Hp → VK → Prop := fun xs H Q => ∃ p ys, xs = [.ref p] ∧ ((SqL K H p ys ∧ ∀ l, H l = none → Q (.ref l) (upd H l (.tup ys))) ∨ (SqT K H p ys ∧ Q (.ref p) H))
theorem e_tupOf {ds : List PyData} (ha : Eh K H0 Γ ta (.list ds)) : Eh K H0 Γ (tCB (rTupOf K) (tCons ta tNil)) (.tuple ds) := e_cb1 ha fun v H Q h q => by
  obtain ⟨p, xs, rfl, h3, h4⟩ := dp_lst h
  exact ⟨p, xs, rfl, .inl ⟨SqL.of h3, fun l hl => q _ _ (Ex.new hl) (.tup upd_same (dps_ex (Ex.new hl) _ _ h4))⟩⟩
theorem l_listOf {ds : List PyData} (ha : Eh K H0 Γ ta (.tuple ds)) : Lh K H0 Γ (tCB (rListS K) (tCons ta tNil)) ds := fun σ H e0 s Q q =>
  ha σ H e0 s _ fun v H1 e1 h1 => by
    obtain ⟨p, xs, rfl, h3, h4⟩ := dp_tup h1
    exact ⟨p, xs, rfl, .inr (SqT.of h3), fun l hl => q _ _ _ (fresh_back e1 hl) (e1.trans (Ex.new hl)) upd_same (dps_ex (Ex.new hl) _ _ h4)⟩
theorem e_sum {ns : List Int} (ha : Eh K H0 Γ ta (.list (ns.map .int))) : Eh K H0 Γ (tCB (rSum K) (tCons ta tNil)) (.int ns.sum) := e_cb1 ha fun v H Q h q => by
  obtain ⟨p, xs, rfl, h3, h4⟩ := dp_lst h
  rw [dps_ints h4] at h3
  exact ⟨p, ns, rfl, SqL.of h3, q _ H (Ex.refl H) (.int _)⟩
theorem e_all {bs : List Bool} (ha : Eh K H0 Γ ta (.list (bs.map .bool))) : Eh K H0 Γ (tCB (rAll K) (tCons ta tNil)) (.bool (bs.all id)) := e_cb1 ha fun v H Q h q => by
  obtain ⟨p, xs, rfl, h3, h4⟩ := dp_lst h
  rw [dps_bls h4] at h3
  exact ⟨p, bs, rfl, SqL.of h3, q _ H (Ex.refl H) (.bl _)⟩
def rInt1 : List V → Hp → VK → Prop := fun xs H Q => (∃ i, xs = [.int i] ∧ Q (.int i) H) ∨ ∃ k, xs = [.bl k] ∧ Q (.int (if k then 1 else 0)) H
theorem e_intB (ha : Eh K H0 Γ ta (.bool a)) : Eh K H0 Γ (tCB rInt1 (tCons ta tNil)) (.int (if a then 1 else 0)) := e_cb1 ha fun v H Q h q => .inr ⟨a, by rw [dp_bl h], q _ H (Ex.refl H) (.int _)⟩
/-- isinstance, by what a value's data tells -/
def tyD : PyData → String
  | .none => "NoneType"
  | .bool _ => "bool"
  | .int _ => "int"
  | .str _ => "str"
  | .list _ => "list"
  | .tuple _ => "tuple"
  | .dict _ => "dict"
theorem dp_ty {H : Hp} {v : V} (hd : (∃ b, d = .bool b) ∨ (∃ i, d = .int i) ∨ ∃ ds, d = .tuple ds) (h : Dq K H v d) : TyX K H v (.type (tyD d)) := by
  rcases hd with ⟨b, rfl⟩ | ⟨i, rfl⟩ | ⟨ds, rfl⟩
  · cases dp_bl h; exact .base (.bl b)
  · cases dp_int h; exact .base (.int i)
  · obtain ⟨p, xs, rfl, h3, _⟩ := dp_tup h
    exact .base (.tup h3)
theorem e_isi {n : String} (ha : Eh K H0 Γ ta d) (hb : ∀ H σ Q, Q (V.ty n) H → tb σ H Q) (hd : (∃ b, d = .bool b) ∨ (∃ i, d = .int i) ∨ ∃ ds, d = .tuple ds) (hk : PySem.W.kitOne K (.type (tyD d)) (.type n) = some a) :
    Eh K H0 Γ (tCB (rIsi K) (tCons ta (tCons tb tNil))) (.bool a) := fun σ H e0 s Q q =>
  ha σ H e0 s _ fun v H1 e1 h1 => hb H1 σ _ ⟨v, .ty n, _, _, a, rfl, .ty n, dp_ty hd h1, hk, q _ H1 e1 (.bl a)⟩
/-- in, not in, by data -/
def rInTD (K : PySem.W.Frag) (neg : Bool) : R2 := fun x y H Q => ∃ (d : PyData) (ds : List PyData), Dp K H x d ∧ Dp K H y (.tuple ds) ∧ SeqAt.shaped d = true ∧ SeqAt.shaped (.tuple ds) = true ∧ Q (.bl (if neg then !ds.any (PyData.eqv · d) else ds.any (PyData.eqv · d))) H
theorem e_inTD {neg : Bool} {ds : List PyData} (ha : Eh K H0 Γ ta d) (hb : Eh K H0 Γ tb (.tuple ds)) (sd : SeqAt.shaped d = true) (se : SeqAt.shaped (.tuple ds) = true) : Eh K H0 Γ (tOp (rInTD K neg) ta tb) (.bool (if neg then !ds.any (PyData.eqv · d) else ds.any (PyData.eqv · d))) := fun σ H e0 s Q q =>
  bin2 ha hb e0 s fun v w H2 e2 h1 h2 => ⟨d, ds, Dq.dp _ _ h1, Dq.dp _ _ h2, sd, se, q _ H2 e2 (.bl _)⟩
/-- t < u of tuples of ints -/
theorem e_ltT {ns ms : List Int} (ha : Eh K H0 Γ ta (.tuple (ns.map .int))) (hb : Eh K H0 Γ tb (.tuple (ms.map .int))) : Eh K H0 Γ (tOp (rLtT K) ta tb) (.bool (HT.lexLt ns ms)) := fun σ H e0 s Q q =>
  bin2 ha hb e0 s fun v w H2 e2 h1 h2 => by
    obtain ⟨p, xs, rfl, h3, h4⟩ := dp_tup h1
    obtain ⟨p', xs', rfl, h3', h4'⟩ := dp_tup h2
    rw [dps_ints h4] at h3
    rw [dps_ints h4'] at h3'
    exact ⟨p, p', ns, ms, rfl, rfl, SqT.of h3, SqT.of h3', q _ H2 e2 (.bl _)⟩
/-- t + u of tuples -/
theorem e_catT {ds es : List PyData} (ha : Eh K H0 Γ ta (.tuple ds)) (hb : Eh K H0 Γ tb (.tuple es)) (hl : ds.length + es.length ≤ 100000) : Eh K H0 Γ (tOp (rCatA K) ta tb) (.tuple (ds ++ es)) := fun σ H e0 s Q q =>
  bin2 ha hb e0 s fun v w H2 e2 h1 h2 => by
    obtain ⟨p, xs, rfl, h3, h4⟩ := dp_tup h1
    obtain ⟨p', xs', rfl, h3', h4'⟩ := dp_tup h2
    refine ⟨p, p', xs, xs', rfl, rfl, SqT.of h3, SqT.of h3', by rw [dps_len h4, dps_len h4']; exact sz_of hl, fun z => ?_, fun _ z => ?_, fun _ _ r hr => ?_⟩
    · subst z
      cases h4
      exact q _ H2 e2 (.tup h3' h4')
    · subst z
      cases h4'
      rw [List.append_nil] at q
      exact q _ H2 e2 (.tup h3 h4)
    · exact q _ _ (e2.trans (Ex.new hr)) (.tup upd_same (dps_ex (Ex.new hr) _ _ (dps_app h4 h4')))
theorem l_cat {ds es : List PyData} (ha : Lh K H0 Γ ta ds) (hb : Lh K H0 Γ tb es) (hl : ds.length + es.length ≤ 100000) : Lh K H0 Γ (tOp rCat ta tb) (ds ++ es) := fun σ H e0 s Q q =>
  ha σ H e0 s _ fun p xs H1 hp e1 h1 d1 => hb σ H1 (e0.trans e1) (s.ex e1) _ fun p' xs' H2 hp' e2 h2 d2 =>
    ⟨p, p', xs, xs', rfl, rfl, e2 _ _ h1, h2, by rw [dps_len d1, dps_len d2]; exact sz_of hl, fun r hr => q _ _ _ (fresh_back (e1.trans e2) hr) ((e1.trans e2).trans (Ex.new hr)) upd_same (dps_ex (Ex.new hr) _ _ (dps_app (dps_ex e2 _ _ d1) d2))⟩
/-- slices of tuples -/
theorem o_none : Oh K H0 Γ tNoPart none := fun _ H _ _ Q q => q H (Ex.refl H)
theorem o_some (h : Eh K H0 Γ te (.int i)) : Oh K H0 Γ (tPart te) (some i) := fun σ H e0 s Q q => h σ H e0 s _ fun v H1 e1 h1 => ⟨i, dp_int h1, q H1 e1⟩
def cutD (ds : List PyData) (lo hi : Option Int) : List PyData := (ds.drop (HT.sIx ds.length 0 lo)).take (HT.sIx ds.length ds.length hi - HT.sIx ds.length 0 lo)
theorem e_slT {ds : List PyData} {tl th : TO} {lo hi : Option Int} (ha : Eh K H0 Γ ta (.tuple ds)) (hl : Oh K H0 Γ tl lo) (hh : Oh K H0 Γ th hi) : Eh K H0 Γ (tSl (rSlA K) ta tl th) (.tuple (cutD ds lo hi)) := fun σ H e0 s Q q =>
  ha σ H e0 s _ fun v H1 e1 h1 => hl σ H1 (e0.trans e1) (s.ex e1) _ fun H2 e2 => hh σ H2 ((e0.trans e1).trans e2) (s.ex (e1.trans e2)) _ fun H3 e3 => by
    obtain ⟨p, xs, rfl, h3, h4⟩ := dp_tup h1
    have e4 := e2.trans e3
    have h4' := dps_ex e4 _ _ h4
    have ln := dps_len h4
    refine ⟨p, xs, rfl, SqT.of (e4 _ _ h3), fun z => ?_, fun _ r hr => ?_⟩
    · have e : cutD ds lo hi = ds := by
        unfold cutD
        rw [← ln, z.1, z.2, List.drop_zero, Nat.sub_zero, ln, List.take_length]
      rw [e] at q
      exact q _ H3 (e1.trans e4) (.tup (e4 _ _ h3) h4')
    · refine q _ _ ((e1.trans e4).trans (Ex.new hr)) (.tup upd_same (dps_ex (Ex.new hr) _ _ ?_))
      unfold cutV cutD
      rw [ln]
      exact dps_take _ (dps_drop _ h4')
end
end Ak
set_option Elab.async false
set_option linter.all false
set_option maxRecDepth 100000
set_option maxHeartbeats 2000000
/-! AkL: targets, walks, comprehensions, calls of own defs, statements. -/
namespace Ak
open PySem PySem.Spec PyProof.Rows L2 Evl

/-! ### targets -/
/-- the target, given data d, turns Γ into Γ', and writes no slot but js -/
def Tg (K : PySem.W.Frag) (g : TG) (d : PyData) (Γ Γ' : Env1) (js : List Nat) : Prop := ∀ (v : V) (σ : Sg) (H : Hp) (Q : Sg → Hp → Prop), Dq K H v d → Sl K H σ Γ → (∀ σ', Sl K H σ' Γ' → (∀ vs : List Nat, (∀ j ∈ js, j ∈ vs) → L2.wipe σ' vs = L2.wipe σ vs) → Q σ' H) → g v σ H Q
section
variable {K : PySem.W.Frag} {Γ : Env1}
theorem tg_name {j : Nat} {d : PyData} : Tg K (gName j) d Γ (Γ.set j (.d d)) [j] := fun v σ H Q hd s q =>
  q _ (s.setD hd) fun vs h => wipe_set (h j (by simp))
theorem tg_2 {i j : Nat} {d e : PyData} : Tg K (gTup K 2 (gCons (gName i) (gCons (gName j) gNil))) (.tuple [d, e]) Γ ((Γ.set i (.d d)).set j (.d e)) [i, j] := fun v σ H Q hd s q => by
  obtain ⟨p, xs, rfl, h3, h4⟩ := dp_tup hd
  cases h4 with
  | cons a t =>
    cases t with
    | cons b t =>
      cases t
      exact ⟨p, _, rfl, SqT.of h3, rfl, _, _, rfl, _, _, rfl, rfl, q _ ((s.setD a).setD b) fun vs h => (wipe_set (h j (by simp))).trans (wipe_set (h i (by simp)))⟩
theorem tg_3 {i j k : Nat} {d e f : PyData} : Tg K (gTup K 3 (gCons (gName i) (gCons (gName j) (gCons (gName k) gNil)))) (.tuple [d, e, f]) Γ (((Γ.set i (.d d)).set j (.d e)).set k (.d f)) [i, j, k] := fun v σ H Q hd s q => by
  obtain ⟨p, xs, rfl, h3, h4⟩ := dp_tup hd
  cases h4 with
  | cons a t =>
    cases t with
    | cons b t =>
      cases t with
      | cons c t =>
        cases t
        exact ⟨p, _, rfl, SqT.of h3, rfl, _, _, rfl, _, _, rfl, _, _, rfl, rfl, q _ (((s.setD a).setD b).setD c) fun vs h => (wipe_set (h k (by simp))).trans ((wipe_set (h j (by simp))).trans (wipe_set (h i (by simp))))⟩
end

/-! ### what is walked -/
/-- J gives, from the heap H1 on, the data ds in order -/
structure Wd (K : PySem.W.Frag) (J : It) (H1 : Hp) (ds : List PyData) : Prop where
  go : ∀ (i : Nat) H, i < ds.length → Ex H1 H → J.go i H
  stop : ∀ H, Ex H1 H → J.stop ds.length H
  yld : ∀ (i : Nat) H x H', Ex H1 H → J.yld i H x H' → ∀ d, ds[i]? = some d → Ex H H' ∧ Dq K H' x d
def Ih (K : PySem.W.Frag) (H0 : Hp) (Γ : Env1) (wi : TI) (ds : List PyData) : Prop := ∀ (σ : Sg) (H : Hp), Ex H0 H → Sl K H σ Γ → ∀ R : It → Hp → Prop, (∀ J H1, Ex H H1 → Wd K J H1 ds → R J H1) → wi σ H R
section
variable {K : PySem.W.Frag} {H0 : Hp} {Γ : Env1} {tl : TE} {ds : List PyData}
theorem wd_list {a : Addr} {xs : List V} {H1 : Hp} (h : H1 a = some (.lst xs)) (hd : DqAll K H1 xs ds) : Wd K (Itl K a) H1 ds := by
  have ln := dps_len hd
  refine ⟨fun i H hi e => ?_, fun H e => ?_, fun i H x H' e y d hd' => ?_⟩
  · exact ⟨xs, xs[i]'(by omega), SqL.of (e _ _ h), by simp [ln ▸ hi]⟩
  · exact ⟨xs, SqL.of (e _ _ h), by omega⟩
  · obtain ⟨z, y⟩ := y
    subst z
    obtain ⟨v, h1, h2⟩ := dps_get hd hd'
    have h3 : xs[i]? = some x := y xs (SqL.of (e _ _ h))
    rw [h1] at h3
    cases h3
    exact ⟨Ex.refl _, dp_ex e _ _ h2⟩
theorem wd_tup {a : Addr} {xs : List V} {H1 : Hp} (h : H1 a = some (.tup xs)) (hd : DqAll K H1 xs ds) : Wd K (Itt K a) H1 ds := by
  have ln := dps_len hd
  refine ⟨fun i H hi e => ?_, fun H e => ?_, fun i H x H' e y d hd' => ?_⟩
  · exact ⟨xs, xs[i]'(by omega), SqT.of (e _ _ h), by simp [ln ▸ hi]⟩
  · exact ⟨xs, SqT.of (e _ _ h), by omega⟩
  · obtain ⟨z, y⟩ := y
    subst z
    obtain ⟨v, h1, h2⟩ := dps_get hd hd'
    have h3 : xs[i]? = some x := y xs (SqT.of (e _ _ h))
    rw [h1] at h3
    cases h3
    exact ⟨Ex.refl _, dp_ex e _ _ h2⟩
def dNs (n : Nat) : List PyData := (List.range n).map fun i => .int (i : Nat)
theorem wd_range {n : Nat} {H1 : Hp} : Wd K (Itr 0 n) H1 (dNs n) := by
  have ln : (dNs n).length = n := by simp [dNs]
  refine ⟨fun i H hi e => by rw [ln] at hi; exact hi, fun H e => by rw [ln]; exact Nat.le_refl _, fun i H x H' e y d hd' => ?_⟩
  obtain ⟨y1, y2⟩ := y
  subst y1 y2
  have hi : i < n := by
    have := (List.getElem?_eq_some_iff.mp hd').1
    omega
  have : d = .int (i : Nat) := by
    unfold dNs at hd'
    rw [List.getElem?_map, List.getElem?_range hi] at hd'
    exact (Option.some.inj hd').symm
  subst this
  rw [Int.zero_add]
  exact ⟨Ex.refl _, .int _⟩
theorem i_list (h : Eh K H0 Γ tl (.list ds)) : Ih K H0 Γ (iList K tl) ds := fun σ H e0 s R q => h σ H e0 s _ fun v H1 e1 h1 => by
  obtain ⟨p, xs, rfl, h3, h4⟩ := dp_lst h1
  exact ⟨p, rfl, ⟨xs, SqL.of h3⟩, q _ H1 e1 (wd_list h3 h4)⟩
theorem i_tup (h : Eh K H0 Γ tl (.tuple ds)) : Ih K H0 Γ (iTup K tl) ds := fun σ H e0 s R q => h σ H e0 s _ fun v H1 e1 h1 => by
  obtain ⟨p, xs, rfl, h3, h4⟩ := dp_tup h1
  exact ⟨p, rfl, ⟨xs, SqT.of h3⟩, q _ H1 e1 (wd_tup h3 h4)⟩
theorem i_range {n : Nat} {ta : TE} (h : Eh K H0 Γ ta (.int (n : Nat))) (hn : n ≤ 100000) : Ih K H0 Γ (iRng1 (tCons ta tNil)) (dNs n) := fun σ H e0 s R q => h σ H e0 s _ fun v H1 e1 h1 => by
  cases dp_int h1
  exact ⟨_, rfl, by omega, by omega, q _ H1 e1 wd_range⟩

/-! ### comprehensions -/
theorem filt_take {α : Type} (p : α → Bool) (ys : List α) (i : Nat) (y : α) (h : ys[i]? = some y) : (ys.take (i + 1)).filter p = (ys.take i).filter p ++ (if p y = true then [y] else []) := by
  rw [List.take_add_one, h, Option.toList_some, List.filter_append, List.filter_cons, List.filter_nil]
theorem l_lc {α : Type} {wi : TI} {g : TG} {tt : TT} {te : TE} {vs js : List Nat} (ys : List α) (enc q : α → PyData) (p : α → Bool) (Γ' : α → Env1) (hi : Ih K H0 Γ wi (ys.map enc)) (hz : ys.length ≤ 40000) (hj : ∀ j ∈ js, j ∈ vs)
    (hg : ∀ y ∈ ys, Tg K g (enc y) (wipeG Γ vs) (Γ' y) js) (ht : ∀ y ∈ ys, Bh K H0 (Γ' y) tt (p y)) (he : ∀ y ∈ ys, p y = true → Eh K H0 (Γ' y) te (q y)) (hu : ∀ y, tuO (q y) = true) : Lh K H0 Γ (tLc wi g tt te vs) ((ys.filter p).map q) := by
  intro σ H e0 s Q k
  refine hi σ H e0 s _ fun J H1 e1 W => ?_
  intro D hD
  have ln : (ys.map enc).length = ys.length := List.length_map ..
  let Pv : Nat → Hp → Prop := fun i H' => Ex H1 H' ∧ ∃ acc, H' D = some (.lst acc) ∧ DqAll K H' acc (((ys.take i).filter p).map q)
  refine ⟨fun i m H' => m = ys.length - i ∧ i ≤ ys.length ∧ Pv i H', ⟨ys.length, by simp, Nat.zero_le _, Ex.new hD, [], upd_same, .nil⟩, ?_⟩
  rintro i m H' ⟨rfl, hle, ex, acc, hacc, hdp⟩
  by_cases hlt : i < ys.length
  · refine .inr ⟨W.go i H' (by omega) ex, Pv (i + 1), fun H'' h => ⟨ys.length - (i + 1), by omega, rfl, hlt, h⟩, fun x H2 y => ?_⟩
    have hy : ys[i]? = some ys[i] := List.getElem?_eq_getElem hlt
    obtain ⟨e2, hx⟩ := W.yld i H' x H2 ex y (enc ys[i]) (by rw [List.getElem?_map, hy]; rfl)
    have mem : ys[i] ∈ ys := List.getElem_mem hlt
    have ex2 := ex.trans e2
    refine hg _ mem x _ H2 _ hx ((s.ex (e1.trans ex2)).wipe vs) fun σ' s' hw => ⟨(hw vs hj).trans wipe_wipe, ?_⟩
    refine ht _ mem σ' H2 ((e0.trans e1).trans ex2) s' _ fun H3 e3 => ?_
    have ft := filt_take p ys i _ hy
    cases hp : p ys[i] with
    | true =>
      rw [if_pos rfl]
      refine he _ mem hp σ' H3 (((e0.trans e1).trans ex2).trans e3) (s'.ex e3) _ fun v H4 e4 h4 => ⟨acc, (e2.trans (e3.trans e4)) _ _ hacc, ?_, ?_⟩
      · have := dps_len hdp
        have l2 := List.length_filter_le p (ys.take i)
        simp only [List.length_map, List.length_take] at this l2
        exact sz_lt (by omega)
      · have hD4 : H4 D = some (.lst acc) := (e2.trans (e3.trans e4)) _ _ hacc
        refine ⟨Ex.mut (ex2.trans (e3.trans e4)) hD, _, upd_same, ?_⟩
        rw [ft, hp, if_pos rfl, List.map_append]
        have tx : Tx K H4 (upd H4 D (.lst (acc ++ [v]))) := Tx.upd (noT_lst hD4)
        have d1 : DqAll K H4 acc (((ys.take i).filter p).map q) := dps_ex (e2.trans (e3.trans e4)) _ _ hdp
        exact dps_app (dps_tx tx _ _ (tuOs_map q hu _) d1) (.cons (dp_tx tx _ _ (hu _) h4) .nil)
    | false =>
      rw [if_neg Bool.false_ne_true]
      refine ⟨ex2.trans e3, acc, (e2.trans e3) _ _ hacc, ?_⟩
      rw [ft, hp, if_neg Bool.false_ne_true, List.append_nil]
      exact dps_ex (e2.trans e3) _ _ hdp
  · have e : i = ys.length := by omega
    subst e
    refine .inl ⟨ln ▸ W.stop H' ex, ?_⟩
    rw [List.take_length] at hdp
    exact k D acc H' (fresh_back e1 hD) (e1.trans ex) hacc hdp
/-- .. without a test -/
theorem l_lcA {α : Type} {wi : TI} {g : TG} {te : TE} {vs js : List Nat} (ys : List α) (enc q : α → PyData) (Γ' : α → Env1) (hi : Ih K H0 Γ wi (ys.map enc)) (hz : ys.length ≤ 40000) (hj : ∀ j ∈ js, j ∈ vs)
    (hg : ∀ y ∈ ys, Tg K g (enc y) (wipeG Γ vs) (Γ' y) js) (he : ∀ y ∈ ys, Eh K H0 (Γ' y) te (q y)) (hu : ∀ y, tuO (q y) = true) : Lh K H0 Γ (tLc wi g tYes te vs) (ys.map q) :=
  (l_lc ys enc q (fun _ => true) Γ' hi hz hj hg (fun _ _ => b_yes) (fun y m _ => he y m) hu).to (by rw [List.filter_eq_self.mpr (fun _ _ => rfl)])
end

/-! ### own defs, called -/
/-- a promise by data: arguments that are args a, of which pre a holds; given is data of which post a is true; nothing that stood has changed -/
def spF {α : Type} (args : α → List PyData) (pre : α → Prop) (post : α → PyData → Prop) (K : PySem.W.Frag) : Sp := fun vs H Q _ => ∃ a : α, DqAll K H vs (args a) ∧ pre a ∧ ∀ v d H', Ex H H' → Dq K H' v d → post a d → Q v H'
/-- the def of that name, and the promise that it keeps -/
structure Ca (P : Program) (w : World) (K : PySem.W.Frag) (mg : Str → Option Value) (base : Heap) (x : Str) (k : Nat) (ps : List Str) (sp : Sp) : Prop where
  ex : ∃ (f : Addr) (fd : FuncData), FnOk P w K mg base CX0 k f fd ps sp ∧ mg x = some (.ref f) ∧ PySem.W.keepIn K (.ref f) = true ∧ Binds K fd ps []
theorem pe_ca {X : Cx} {x : Str} {k n : Nat} {ps : List Str} {sp : Sp} {p pos : Pos} {e : Expr} {es : List Expr} {t : TA} (C : Ca X.prog X.w X.K X.mg X.base x k ps sp) (hr : Room n X.A) (hk : k ≤ n) (hg : Gl X x) (ha : PA X (e :: es) t)
    (hdb : (x == ("__debug__" : Str)) = false := by decide) (he : starEach (e :: es) X.env = (false, eval e X.env) :: starEach es X.env := by rfl) (hpl : (backTo pos (starEach es X.env)).any (·.1) = false := by rfl) :
    PE X (.Call (.Name x p) (e :: es) [] pos) (tCall sp [] E0 t) := by
  obtain ⟨f, fd, F, hm, hk', hb⟩ := C.ex
  exact pe_call F (hr.mono hk) hg hm hk' hb .nil pass0 ha hdb he hpl
/-- how a def of the text stands behind the top -/
structure Fn (K : PySem.W.Frag) (mg : Str → Option Value) (x : Str) (st : Stmt) (ps : List Str) : Prop where
  ex : ∃ (f : Addr) (fd : FuncData), Fun K x x st f fd ∧ mg x = some (.ref f) ∧ Binds K fd ps []
theorem Fn.ca {P : Program} {w : World} {K : PySem.W.Frag} {mg : Str → Option Value} {base : Heap} {x : Str} {st : Stmt} {N ps : List Str} {k : Nat} {sp : Sp} (F : Fn K mg x st ps) (S : FnScope N ps (defScope st)) (len : ∀ vs H Q E, sp vs H Q E → vs.length = ps.length)
    (hbody : ∀ (f : Addr) (cdv : Value) (A : Around) (outer : List Env) (s : Shared) (H : Hp) (vs : List V) (Q : VK) (E : XK), Room k (A.deeper (envOfC x (defScope st) s.heap.objs.size f cdv)) → sp vs H Q E →
      ∃ t, PSs (cxOf CX0 P w K mg base N x (defScope st) f cdv A outer s H E).nox (defBody st) t ∧ t { nx := fun _ H' => Q .non H', rt := Q } (start N vs) H) : Ca P w K mg base x (k + 1) ps sp := by
  obtain ⟨f, fd, F, hm, hb⟩ := F.ex
  exact ⟨f, fd, F.ok S len (fun cdv A outer s H vs Q E hr h => hbody f cdv A outer s H vs Q E hr h), hm, F.kp, hb⟩
theorem spF_len {α : Type} {args : α → List PyData} {pre : α → Prop} {post : α → PyData → Prop} {K : PySem.W.Frag} {n : Nat} (h : ∀ a, (args a).length = n) (vs : List V) (H : Hp) (Q : VK) (E : XK) (s : spF args pre post K vs H Q E) : vs.length = n := by
  obtain ⟨a, h1, _⟩ := s
  rw [dps_len h1, h]
section
variable {K : PySem.W.Frag} {H0 : Hp} {Γ : Env1} {ta : TA} {ds : List PyData} {α : Type} {args : α → List PyData} {pre : α → Prop} {post : α → PyData → Prop}
theorem p_call {E : XK} (a : α) (h : Ah K H0 Γ ta (args a)) (hp : pre a) : Ph K H0 Γ (tCall (spF args pre post K) [] E ta) (post a) := fun σ H e0 s Q q =>
  h σ H e0 s _ fun vs H1 e1 h1 => ⟨a, by rw [List.append_nil]; exact h1, hp, fun v d H2 e2 h2 p => q v d H2 (e1.trans e2) h2 p⟩
theorem e_call {E : XK} {d : PyData} (a : α) (h : Ah K H0 Γ ta (args a)) (hp : pre a) (hq : ∀ x, post a x → x = d) : Eh K H0 Γ (tCall (spF args pre post K) [] E ta) d := fun σ H e0 s Q q =>
  p_call a h hp σ H e0 s Q fun v x H1 e1 h1 p => q v H1 e1 (by rw [← hq x p]; exact h1)
end

/-! ### statements -/
section
variable {K : PySem.W.Frag} {H0 H : Hp} {Γ : Env1} {σ : Sg} {te : TE} {tt : TT} {tu tw tz : TS} {D : Ends} {d : PyData} {b : Bool} {i : Nat}
theorem s_asg (h : Eh K H0 Γ te d) (e0 : Ex H0 H) (s : Sl K H σ Γ) (k : ∀ σ' H1, Ex H H1 → Sl K H1 σ' (Γ.set i (.d d)) → tz D σ' H1) : tSeq (tAsg te (gName i)) tz D σ H :=
  h σ H e0 s _ fun v H1 e1 h1 => k _ H1 e1 ((s.ex e1).setD h1)
theorem s_asgP {P : PyData → Prop} (h : Ph K H0 Γ te P) (e0 : Ex H0 H) (s : Sl K H σ Γ) (k : ∀ σ' H1 d, Ex H H1 → P d → Sl K H1 σ' (Γ.set i (.d d)) → tz D σ' H1) : tSeq (tAsg te (gName i)) tz D σ H :=
  h σ H e0 s _ fun v d H1 e1 h1 p => k _ H1 d e1 p ((s.ex e1).setD h1)
theorem s_asgL {ds : List PyData} (h : Lh K H0 Γ te ds) (e0 : Ex H0 H) (s : Sl K H σ Γ) (k : ∀ σ' H1 p xs, H p = none → Ex H H1 → H1 p = some (.lst xs) → DqAll K H1 xs ds → Sl K H1 σ' (Γ.set i (.v (.ref p))) → tz D σ' H1) : tSeq (tAsg te (gName i)) tz D σ H :=
  h σ H e0 s _ fun p xs H1 hp e1 h1 h2 => k _ H1 p xs hp e1 h1 h2 ((s.ex e1).setV)
theorem s_asgT {g : TG} {Γ' : Env1} {js : List Nat} (h : Eh K H0 Γ te d) (hg : Tg K g d Γ Γ' js) (e0 : Ex H0 H) (s : Sl K H σ Γ) (k : ∀ σ' H1, Ex H H1 → Sl K H1 σ' Γ' → tz D σ' H1) : tSeq (tAsg te g) tz D σ H :=
  h σ H e0 s _ fun v H1 e1 h1 => hg v σ H1 _ h1 (s.ex e1) fun σ' s' _ => k σ' H1 e1 s'
theorem s_if (h : Bh K H0 Γ tt b) (e0 : Ex H0 H) (s : Sl K H σ Γ) (h1 : b = true → ∀ H1, Ex H H1 → Sl K H1 σ Γ → tu { D with nx := tz D } σ H1) (h2 : b = false → ∀ H1, Ex H H1 → Sl K H1 σ Γ → tw { D with nx := tz D } σ H1) : tSeq (tIfS tt tu tw) tz D σ H :=
  h σ H e0 s _ fun H1 e1 => by
    cases b with
    | true =>
      show tu { D with nx := tz D } σ H1
      exact h1 rfl H1 e1 (s.ex e1)
    | false =>
      show tw { D with nx := tz D } σ H1
      exact h2 rfl H1 e1 (s.ex e1)
/-- an if without else whose test is false -/
theorem s_ifF (h : Bh K H0 Γ tt false) (e0 : Ex H0 H) (s : Sl K H σ Γ) (k : ∀ H1, Ex H H1 → Sl K H1 σ Γ → tz D σ H1) : tSeq (tIfS tt tu tNext) tz D σ H :=
  s_if h e0 s (fun z => nomatch z) fun _ H1 e1 s1 => k H1 e1 s1
theorem s_ifL (h : Bh K H0 Γ tt b) (e0 : Ex H0 H) (s : Sl K H σ Γ) (h1 : b = true → ∀ H1, Ex H H1 → Sl K H1 σ Γ → tu D σ H1) (h2 : b = false → ∀ H1, Ex H H1 → Sl K H1 σ Γ → tw D σ H1) : tIfS tt tu tw D σ H :=
  h σ H e0 s _ fun H1 e1 => by
    cases b with
    | true =>
      show tu D σ H1
      exact h1 rfl H1 e1 (s.ex e1)
    | false =>
      show tw D σ H1
      exact h2 rfl H1 e1 (s.ex e1)
theorem s_ret (h : Eh K H0 Γ te d) (e0 : Ex H0 H) (s : Sl K H σ Γ) (k : ∀ v H1, Ex H H1 → Dq K H1 v d → D.rt v H1) : tRet te D σ H := h σ H e0 s _ k
theorem s_retP {P : PyData → Prop} (h : Ph K H0 Γ te P) (e0 : Ex H0 H) (s : Sl K H σ Γ) (k : ∀ v d H1, Ex H H1 → Dq K H1 v d → P d → D.rt v H1) : tRet te D σ H := h σ H e0 s _ k
theorem s_drop (h : Eh K H0 Γ te d) (e0 : Ex H0 H) (s : Sl K H σ Γ) (k : ∀ H1, Ex H H1 → Sl K H1 σ Γ → tz D σ H1) : tSeq (tDrop te) tz D σ H := h σ H e0 s _ fun v H1 e1 _ => k H1 e1 (s.ex e1)
/-- l.append(e), l the list at p in slot i -/
theorem s_app {p : Addr} {xs : List V} (h : Eh K H0 Γ te d) (e0 : Ex H0 H) (s : Sl K H σ Γ) (hi : Γ[i]? = some (.v (.ref p))) (hl : H p = some (.lst xs)) (hz : xs.length < 100000)
    (k : ∀ H1 v, Ex H H1 → Dq K H1 v d → Sl K H1 σ Γ → tz D σ (upd H1 p (.lst (xs ++ [v])))) : tSeq (tDrop (tBM K "list" rAppend (tVar i) (tCons te tNil))) tz D σ H :=
  ⟨_, s.val hi, .inl ⟨rfl, xs, SqL.of hl⟩, h σ H e0 s _ fun v H1 e1 h1 => ⟨p, xs, v, rfl, rfl, e1 _ _ hl, sz_lt hz, k H1 v e1 h1 (s.ex e1)⟩⟩
theorem s_appL {p : Addr} {xs : List V} (h : Eh K H0 Γ te d) (e0 : Ex H0 H) (s : Sl K H σ Γ) (hi : Γ[i]? = some (.v (.ref p))) (hl : H p = some (.lst xs)) (hz : xs.length < 100000)
    (k : ∀ H1 v, Ex H H1 → Dq K H1 v d → Sl K H1 σ Γ → D.nx σ (upd H1 p (.lst (xs ++ [v])))) : tDrop (tBM K "list" rAppend (tVar i) (tCons te tNil)) D σ H :=
  ⟨_, s.val hi, .inl ⟨rfl, xs, SqL.of hl⟩, h σ H e0 s _ fun v H1 e1 h1 => ⟨p, xs, v, rfl, rfl, e1 _ _ hl, sz_lt hz, k H1 v e1 h1 (s.ex e1)⟩⟩
end
end Ak
set_option Elab.async false
set_option linter.all false
set_option maxRecDepth 100000
set_option maxHeartbeats 4000000
/-! AkR: rules for constructs that the hand layer has not. -/
namespace Ak
open PySem PySem.Spec PyProof.Rows L2 Evl
section
variable {X : Cx}
/-! powers of great numbers -/
def CPowB (i j : Int) : Prop := 0 ≤ j ∧ (Builtin.Int.intBits i : Int) * j ≤ 2 ^ 27
theorem op_powB : OpR X (binaryOp .Pow) (rI CPowB fun i j => .int (i ^ j.toNat)) := opI fun _ _ _ _ _ _ _ hc q => pow_int hc.1 hc.2 q

/-! o[i] op= e of a list -/
def rGetL (K : PySem.W.Frag) : V → V → Hp → VK → Prop := fun o i H Q => ∃ p xs k v, o = .ref p ∧ i = .int k ∧ SqL K H p xs ∧ 0 ≤ k ∧ xs[k.toNat]? = some v ∧ Q v H
theorem get_list : PGet X (rGetL X.K) := by
  intro pins s σ H o i ov iv Q I ro ri h
  obtain ⟨p, xs, k, v, rfl, rfl, hq, h0, he, q⟩ := h
  cases ro
  obtain ⟨t, rfl⟩ := ri
  obtain ⟨its, r, pl, hz⟩ := I.list hq
  obtain ⟨w, ew, rw'⟩ := r.get he
  have hl := r.length
  have hn := line63
  have hk : k.toNat < its.length := (List.getElem?_eq_some_iff.mp ew).1
  exact wpAny_getItem_list (Q := EP X pins σ Q) pl.isList h0 (by omega) (by simpa using ew) ⟨v, H, I, rw', q⟩

/-! in, not in of a tuple, by data -/
theorem op_inTD (hu : X.A.units + 64 < cLine) : OpR X (compareOp .In) (rInTD X.K false) := by
  intro pins s σ H x y v u Q I rx ry h
  obtain ⟨d, ds, hd, he, sd, se, q⟩ := h
  obtain ⟨as, r1⟩ := Dp.reads I d x v hd rx
  obtain ⟨bs, r2⟩ := Dp.reads I (.tuple ds) y u he ry
  refine SeqAt.in_tuple_reads r2 r1 (SeqAt.canLay_of_shaped se) (SeqAt.canLay_of_shaped sd) ?_ ⟨.bl _, H, I, rfl, q⟩
  have h64 : PyData.depth (.tuple ds) ≤ 64 := of_decide_eq_true (Bool.and_eq_true_iff.mp se).2
  have hd64 : PyData.depthAll ds + 1 ≤ 64 := by
    simp only [PyData.depth] at h64
    omega
  have := Nat.min_le_left (PyData.depthAll ds) d.depth
  omega
theorem op_notInTD (hu : X.A.units + 64 < cLine) : OpR X (compareOp .NotIn) (rInTD X.K true) := by
  intro pins s σ H x y v u Q I rx ry h
  obtain ⟨d, ds, hd, he, sd, se, q⟩ := h
  obtain ⟨as, r1⟩ := Dp.reads I d x v hd rx
  obtain ⟨bs, r2⟩ := Dp.reads I (.tuple ds) y u he ry
  refine SeqAt.notIn_tuple_reads r2 r1 (SeqAt.canLay_of_shaped se) (SeqAt.canLay_of_shaped sd) ?_ ⟨.bl _, H, I, rfl, q⟩
  have h64 : PyData.depth (.tuple ds) ≤ 64 := of_decide_eq_true (Bool.and_eq_true_iff.mp se).2
  have hd64 : PyData.depthAll ds + 1 ≤ 64 := by
    simp only [PyData.depth] at h64
    omega
  have := Nat.min_le_left (PyData.depthAll ds) d.depth
  omega
end
end Ak
set_option Elab.async false
set_option linter.all false
set_option maxRecDepth 100000
set_option maxHeartbeats 4000000
/-! AkR2: more rules: a displayed dict with one tuple as its key; sorted and max of a tuple; a pair turned round; a tuple so many times. -/
namespace Ak
open PySem PySem.Spec PyProof.Rows L2 Evl
section
variable {X : Cx}
/-! {k: v}, k a tuple -/
def tDispT (tk tv : TE) : TE := fun σ H Q => ∀ p, H p = none → tk σ (upd H p (.dT [])) fun x H1 => tv σ H1 fun y H2 => H2 p = some (.dT []) ∧ ∃ (b : Addr) (k : List Key), x = .ref b ∧ H2 b = some (.tup (k.map kV)) ∧ Q (.ref p) (upd H2 p (.dT [(k, y)]))
theorem pe_dispT {k v : Expr} {tk tv : TE} {pos : Pos} (hu : X.A.units + 1 < cLine) (hk : PE X k tk) (hv : PE X v tv) : PE X (.Dict [some k] [v] pos) (tDispT tk tv) := by
  refine ⟨fun pins s σ H Q I q => ?_⟩
  have hn := I.hok.fresh (Nat.le_refl s.heap.objs.size)
  have I1 := I.laid (a := s.heap.objs.size) (o := .dT []) (h' := s.heap.push { cls := .type "dict", data := .dict #[] }) (t' := s.toks) (fun _ _ q => Heap.get?_push_of_some _ q) (Nat.le_refl _) (dt_empty s.heap I.big)
  rw [arm_eval_Dict, zip_pairTrees [some k] [v] X.env pos rfl rfl, dictDisplay_pairs (pairTrees [some k] [v] X.env pos) (by simp [pairTrees]) (by simp [pairTrees])]
  refine wpAny_bind (wpAny_standAt (wpAny_bind (wpAny_subDictH (knd := tupleKind (mixKind X.prog X.w)) (Q := fun d s' => wpAny (model X.prog X.w) X.A (pure (Value.ref d)) (EP X pins σ Q) X.xe s') (show X.A.units < cLine by omega) (by simp [pairTrees]) ?_)))
  refine pairTrees_cons_walk (thn (hk.run pins _ σ _ _ I1 (q _ hn)) fun u s1 ⟨x, H1, I2, rx, q1⟩ => thn (hv.run pins s1 σ H1 _ I2 q1) fun w2 s2 ⟨y, H2, I3, ry, e, b, ks, ex, eb, q2⟩ => pairTrees_nil_walk ?_)
  subst ex
  cases rx
  obtain ⟨z, hd, xs, rel, dd⟩ := dt_of I3.hok e
  cases rel
  refine ⟨[(ks, b, w2)], ⟨rfl, rfl, key_of I3.hok eb, True.intro⟩, dd, fun h' tk dd' hs => wpAny_pure ⟨.ref s.heap.objs.size, _, ?_, rfl, q2⟩⟩
  obtain ⟨ob, es, ep, h1, h2, h3, h4, h5, h6⟩ := dd'
  refine d_write I3 (by rw [e]; exact True.intro) hs ⟨ob, h1⟩ ⟨by show 1 ≤ sizeLine; decide, hd, _, .cons ⟨rfl, ?_, ry⟩ .nil, ob, es, ep, h1, h2, h3, h4, h6⟩
  rw [upd_ne (ne_of eb e (fun z => nomatch z))]
  exact eb
end
end Ak
set_option Elab.async false
set_option linter.all false
set_option maxRecDepth 100000
set_option maxHeartbeats 4000000
/-! AkR3: max and sorted of a tuple, a pair turned round, a tuple so many times. -/
namespace Ak
open PySem PySem.Spec PyProof.Rows L2 Evl
section
variable {prog : Program} {w : World} {A : Around} {E : Value → Shared → Prop} {s : Shared}
theorem iter_intTup {l : Addr} {its : Array Value} {Q : Value → Shared → Prop} (hl : s.heap.IsTuple l its)
    (h : ∀ s2 : Shared, s2 = { s with heap := s.heap.push { cls := .type "tuple_iterator", data := .fields #[.ref l, .int 0 0] } } →
      (s2.heap.IsTupleIter s.heap.objs.size l 0 ∧ s2.heap.IsTuple l its) → (∀ b ∈ [s.heap.objs.size, l], b < s2.heap.objs.size) → l ≠ s.heap.objs.size → Q (.ref s.heap.objs.size) s2) :
    wpAny (model prog w) A (pyIter (.ref l)) Q E s := by
  have hlt : l < s.heap.objs.size := by obtain ⟨_, e, _⟩ := hl; exact Heap.lt_size e
  refine wpAny_pyIter_tuple hl (h _ rfl ⟨⟨_, Heap.get?_push_size _ rfl, rfl, rfl⟩, hl.push _⟩ (fun b hb => ?_) (Nat.ne_of_lt hlt))
  rw [Heap.size_push]
  rcases List.mem_cons.mp hb with rfl | hb
  · exact Nat.lt_succ_self _
  · rcases List.mem_cons.mp hb with rfl | hb
    · exact Nat.lt_succ_of_lt hlt
    · cases hb
theorem max_tupRaw {l : Addr} {its : List Value} {ns : List Int} {Q : Value → Shared → Prop} (hh : A.handled = none) (hl : s.heap.IsTuple l its.toArray) (hi : IntsAre its ns) (hne : 0 < ns.length)
    (h : ∀ h' tk M t', (∀ b o, s.heap.get? b = some o → h'.get? b = some o) → M ∈ ns → (∀ a, a ∈ ns → a ≤ M) → Q (.int M t') { s with heap := h', toks := tk }) : wpAny (model prog w) A (call (.builtin "max") [.ref l]) Q E s := by
  obtain ⟨xs, e⟩ := hi.allInts.items
  have hn : numsOf (intItems xs).toList = ns := by rw [← e]; exact hi.numsOf
  rw [nums_intItems] at hn
  subst hn
  rw [e] at hl
  have hsz : 0 < xs.size := by simpa using hne
  refine call_max_walk (iter_intTup hl fun s2 e2 st hfp hlI => ?_)
  subst e2
  refine ⟨_, _, _, _, _, _, _, rfl, Walks.tuple (A := A.in1) hh _ l hlI (intItems xs), st, hfp, by simpa [intItems] using hsz, CmpOf.ints_gt (numAt xs) (fun _ _ => intItems_at), fun v h' tk hP hk => ?_⟩
  have hv : (intItems xs)[argBest (fun i j => decide (numAt xs i > numAt xs j)) (xs.size - 1)]? = some v := by simpa [intItems] using hP
  obtain ⟨t, rfl⟩ := intItems_at hv
  obtain ⟨g1, g2⟩ := argBest_gt (numAt xs) (xs.size - 1)
  refine h h' tk _ t (fun b o q => hk b o (fun hm => ?_) (Heap.get?_push_of_some _ q)) ?_ fun a ha => ?_
  · rcases List.mem_cons.mp hm with z | hm
    · exact absurd (z ▸ Heap.lt_size q) (Nat.lt_irrefl _)
    · cases hm
  · rw [numAt_eq]; exact PySem.getD_mem (by rw [List.length_map, Array.length_toList]; omega)
  · obtain ⟨j, hj, rfl⟩ := mem_getD ha
    rw [List.length_map, Array.length_toList] at hj
    rw [← numAt_eq]; exact g2 j (by omega)
end
section
variable {X : Cx}
def rMaxT (K : PySem.W.Frag) : List V → Hp → VK → Prop := fun vs H Q => ∃ (a : Addr) (ns : List Int), vs = [V.ref a] ∧ SqT K H a (ns.map V.int) ∧ 0 < ns.length ∧ ∀ m, m ∈ ns → (∀ y, y ∈ ns → y ≤ m) → Q (.int m) H
theorem cr_maxT (hc : X.calm = true) : CallR X (.builtin "max") (rMaxT X.K) := by
  intro pins s σ H vs us Q I r h
  obtain ⟨a, ns, rfl, hs, hne, q⟩ := h
  obtain ⟨its, rv, hl, _⟩ := I.tuple hs
  rw [Vals.ref1 r]
  exact max_tupRaw (I.ok.hd hc) (show s.heap.IsTuple a its.toArray from hl) rv.ints hne fun h' tk m t' hk h1 h2 => ⟨.int _, H, I.kept hk, ⟨_, rfl⟩, q m h1 h2⟩
end

/-! sorted of a tuple of pairs -/
section
variable {prog : Program} {w : World} {A : Around} {E : Value → Shared → Prop} {s : Shared}
theorem collect_tup {l : Addr} {vs : List Value} {Q : List Value → Shared → Prop} (hl : s.heap.IsTuple l vs.toArray)
    (h : Q vs { s with heap := (s.heap.push (seqObj "list" #[] 0)).update s.heap.objs.size (Obj.mapSeq (· ++ vs.toArray)) }) (hsz : vs.length ≤ sizeLine) :
    wpAny (model prog w) A (collect (.ref l)) Q E s := by
  obtain ⟨o, ho, hc, n, hd⟩ := id hl
  unfold collect
  refine wpAny_bind (wpAny_runValue (codeAny_builtin entry_proto_collect' ?_))
  show wpAny _ _ (do again (.builtin "list.__iadd__" ⟨[← newList [], .ref l], []⟩)) _ _ s
  refine wpAny_bind (wpAny_newList (wpAny_pure ⟨Code.quiet_builtin _ (by decide +kernel), codeAny_builtin entry_list_iadd' ?_⟩))
  show wpAny _ _ (Builtin.List.listExtendWith (.ref s.heap.objs.size) (.ref l) (.ref s.heap.objs.size)) _ _ { s with heap := s.heap.push (seqObj "list" #[] 0) }
  unfold Builtin.List.listExtendWith
  have ho' : (s.heap.push (seqObj "list" #[] 0)).get? l = some o := Heap.get?_push_of_some _ ho
  refine wpAny_bind (wpAny_typeOf (T := "tuple") ⟨o, ho', hc⟩ ?_)
  have ht : (Value.type "tuple" == Value.type "tuple") = true := by rfl
  rw [if_pos (by rw [ht]; simp)]
  refine wpAny_bind (listItems_at ho' hd ?_)
  refine wpAny_bind (listItems_at (xs := #[]) (n := 0) (Heap.get?_push_size _ rfl) rfl ?_)
  rw [if_neg (by simp)]
  refine wpAny_bind (listUpdate_at (xs := #[]) (n := 0) (Heap.get?_push_size _ rfl) rfl ?_ (Nat.zero_le _) (by show (#[] ++ vs.toArray).size ≤ sizeLine + 1; simp only [Array.size_append, List.size_toArray, List.length_nil]; omega))
  refine wpAny_pure ?_
  show wpAny (model prog w) A (do
      let o ← load s.heap.objs.size
      match o.data with
      | .seq xs _ => pure xs.toList
      | _ => unsupported "internal:collect") Q E { s with heap := (s.heap.push (seqObj "list" #[] 0)).update s.heap.objs.size (Obj.mapSeq (· ++ vs.toArray)) }
  refine wpAny_bind (wpAny_load (get?_update_seq (Heap.get?_push_size _ rfl) _) ?_)
  show wpAny _ _ (pure ((#[] : Array Value) ++ vs.toArray).toList) Q E _
  rw [show ((#[] : Array Value) ++ vs.toArray).toList = vs by simp]
  exact wpAny_pure h
end
end Ak
namespace SrtO
open PySem PySem.W PySem.Calls PyProof.Rows
section
variable {prog : Program} {w : World} {A : Around} {E : Value → Shared → Prop} {s : Shared}
theorem ak_sortedT {l : Addr} {vs : List Value} {ltv : Value → Value → Bool} {Q : Value → Shared → Prop} (O : Swo ltv) (hl : s.heap.IsTuple l vs.toArray) (hz : vs.length ≤ sizeLine)
    (hS : 2 ≤ vs.length → ∀ (h1 : Heap) (a : Addr), h1.get? a = some (seqObj "list" vs.toArray 0) → (∀ b o, s.heap.get? b = some o → b ≠ a ∧ h1.get? b = some o) → SortableO prog w A.in1.in1 { s with heap := h1 } a vs ltv)
    (h : ∀ out : List Value, Srtd ltv out → Stb ltv out vs → Q (.ref (s.heap.objs.size + 1)) { s with heap := sortedAll s.heap vs out.toArray }) :
    wpAny (model prog w) A (call (.builtin "sorted") [.ref l]) Q E s := by
  refine Calls.call_function_entry kind_sorted plain_sorted entry_sorted (args_sorted1 _) ?_
  unfold Builtin.«sorted»
  refine wpAny_bind (m := checkCount "sorted" 1 1 _) (wpAny_pure ?_)
  refine wpAny_bind (Ak.collect_tup hl ?_ hz)
  refine wpAny_bind (wpAny_newList ?_ hz)
  have hsz : ((s.heap.push (seqObj "list" #[] 0)).update s.heap.objs.size (Obj.mapSeq (· ++ vs.toArray))).objs.size = s.heap.objs.size + 1 := by
    rw [Heap.size_update, size_push']
  have hoL : (((s.heap.push (seqObj "list" #[] 0)).update s.heap.objs.size (Obj.mapSeq (· ++ vs.toArray))).push (seqObj "list" vs.toArray 0)).get? (s.heap.objs.size + 1) = some (seqObj "list" vs.toArray 0) := by
    rw [← hsz]; exact Heap.get?_push_size _ rfl
  have keep : ∀ b o, s.heap.get? b = some o → b ≠ s.heap.objs.size + 1 ∧ (((s.heap.push (seqObj "list" #[] 0)).update s.heap.objs.size (Obj.mapSeq (· ++ vs.toArray))).push (seqObj "list" vs.toArray 0)).get? b = some o := fun b o q => by
    have hlt : b < s.heap.objs.size := Heap.lt_size q
    refine ⟨Nat.ne_of_lt (Nat.lt_succ_of_lt hlt), Heap.get?_push_of_some _ ?_⟩
    rw [Heap.get?_update_ne _ _ _ _ (Nat.ne_of_lt hlt)]
    exact Heap.get?_push_of_some _ q
  show wpAny _ _ _ _ _ { s with heap := ((s.heap.push (seqObj "list" #[] 0)).update s.heap.objs.size (Obj.mapSeq (· ++ vs.toArray))).push (seqObj "list" vs.toArray 0) }
  rw [hsz]
  refine wpAny_bind (wpAny_holding (wpAny_call_entry slot_list_sort ⟨_, hoL, rfl⟩ entry_list_sort (list_sort_ord O hoL hz (fun h2 => hS h2 _ _ hoL keep) fun out hs hb => ⟨_, rfl, ?_⟩) (args_list_sort _)))
  exact wpAny_pure ⟨_, rfl, h out hs hb⟩
theorem ak_sortedPT {l : Addr} {vs : List Value} {k : Value → Int × Int} {Q : Value → Shared → Prop} (hl : s.heap.IsTuple l vs.toArray) (hz : vs.length ≤ sizeLine) (hp : ∀ v ∈ vs, Srt.IsPair s.heap v (k v).1 (k v).2)
    (h : ∀ (h' : Heap) (d : Addr) (out : List Value), Srtd (fun v u => lexB (k v) (k u)) out → Stb (fun v u => lexB (k v) (k u)) out vs → (∀ b o, s.heap.get? b = some o → h'.get? b = some o) → s.heap.objs.size ≤ d → (∃ n, h'.get? d = some (seqObj "list" out.toArray n)) → Q (.ref d) { s with heap := h' }) :
    wpAny (model prog w) A (call (.builtin "sorted") [.ref l]) Q E s := by
  refine ak_sortedT (swo_lex k) hl hz (fun h2 h1 a ha kk => ?_) fun out hs hb => ?_
  · refine pairs_sortableO (s := { s with heap := h1 }) (by omega) (fun v hm => (hp v hm).keeps fun b o e _ => (kk b o e).2) fun o e => ?_
    have e' : some o = some (seqObj "list" vs.toArray 0) := e.symm.trans ha
    cases e'
    intro c
    exact absurd (Value.type.inj c) (by decide)
  · exact h _ _ out hs hb (fun b o e => sortedAll_old e) (Nat.le_succ _) (sortedAll_at s.heap vs out.toArray)
end
end SrtO
namespace Ak
open PySem PySem.Spec PyProof.Rows L2 Evl
/-- sorted(t), t a tuple of pairs of ints -/
def rSortedPT (K : PySem.W.Frag) : List V → Hp → VK → Prop := fun vs H Q => ∃ (a : Addr) (xs : List V) (k : V → Int × Int), vs = [V.ref a] ∧ SqT K H a xs ∧ (∀ x ∈ xs, ∃ t, x = V.ref t ∧ H t = some (.tup [.int (k x).1, .int (k x).2])) ∧
  ∀ ys p, SrtO.Srtd (ltP k) ys → SrtO.Stb (ltP k) ys xs → H p = none → Q (.ref p) (upd H p (.lst ys))
section
variable {X : Cx}
theorem cr_sortedPT : CallR X (.builtin "sorted") (rSortedPT X.K) := by
  intro pins s σ H vs us Q I r h
  obtain ⟨a, xs, k, rfl, hs, hx, q⟩ := h
  obtain ⟨its, rv, hl, hz⟩ := I.tuple hs
  obtain ⟨u, rfl, ru⟩ := vals1 r
  obtain rfl : u = Value.ref a := ru
  obtain ⟨e1, e2⟩ := refs_back rv fun x m => by
    obtain ⟨t, e, _⟩ := hx x m
    exact ⟨t, e⟩
  refine SrtO.ak_sortedPT (k := fun u => k (backV u)) (show s.heap.IsTuple a its.toArray from hl) (by rw [← rv.length]; exact hz) (fun v hv => ?_) fun h' d out h1 h2 kp hd hn => ?_
  · obtain ⟨t, rfl⟩ := e2 v hv
    have hm : V.ref t ∈ xs := by rw [e1]; exact List.mem_map.mpr ⟨_, hv, rfl⟩
    obtain ⟨t', e, ht⟩ := hx _ hm
    cases e
    obtain ⟨_, its2, r2, o, ho, hc, n, hd⟩ := I.hok _ _ ht
    obtain ⟨u1, u2, rfl, ri, rj⟩ := vals2 r2
    obtain ⟨t1, rfl⟩ := ri
    obtain ⟨t2, rfl⟩ := rj
    exact ⟨t, o, t1, t2, n, rfl, ho, hc, hd⟩
  · have h3 : ∀ u ∈ out, ∃ a, u = Value.ref a := fun u hu => e2 u (h2.perm.mem_iff.mp hu)
    obtain ⟨n, hn⟩ := hn
    have hb : SrtO.Stb (ltP k) (out.map backV) xs := by
      rw [e1]
      exact SrtO.Stb.map (ltP_swo k) backV h2
    refine ⟨.ref d, upd H d (.lst (out.map backV)), I.laid (t' := s.toks) kp hd ⟨?_, out, n, vals_back h3, hn⟩, rfl, q _ d (SrtO.srtd_map h1) hb (I.hok.fresh hd)⟩
    rw [hb.len]
    exact hz
/-! a pair turned round -/
def tRevP (K : PySem.W.Frag) (te : TE) : TE := fun σ H Q => te σ H fun x H1 => ∃ a y z, x = .ref a ∧ SqT K H1 a [y, z] ∧ ∀ p, H1 p = none → Q (.ref p) (upd H1 p (.tup [z, y]))
theorem getItem_revP {prog : Program} {w : World} {A : Around} {E : Value → Shared → Prop} {s : Shared} {t sl : Addr} {y z vl vu vs : Value} {Q : Value → Shared → Prop} (ht : IsTup s.heap t #[y, z]) (hs : s.heap.IsSliceOf sl vl vu vs) (pl : IsPart vl none) (pu : IsPart vu none) (ps : IsPart vs (some (-1)))
    (h : Q (.ref s.heap.objs.size) { s with heap := s.heap.push { cls := .type "tuple", data := .seq #[z, y] } }) : wpAny (model prog w) A (getItem (.ref t) (.ref sl)) Q E s := by
  obtain ⟨os, hos, hcs, hds⟩ := id hs
  have hTs : s.TypeIs (.ref sl) "slice" := ⟨os, hos, hcs⟩
  unfold getItem
  try with_reducible refine wpAny_holding ?_
  first | refine wpAny_bind (wpAny_pure ?_) | skip
  refine wpAny_bind (wpAny_sequenceKey ht.typeIs (by decide) ?_)
  refine wpAny_bind (wpAny_callSpecial?_slot (name := Str.ofString "__getitem__") ht.typeIs PyProof.Rows.slot_tuple_getitem
    (wpAny_call_entry PyProof.Rows.slot_tuple_getitem ht.typeIs entry_tuple_getitem ?_ (args_tuple_getitem _ _)))
  show wpAny _ _ (Builtin.Tuple.tupleItemsOf (.ref t) >>= _) _ _ s
  refine wpAny_bind (tupleItemsOf_ ht ?_)
  refine wpAny_bind (wpAny_typeOf hTs ?_)
  rw [if_pos (by decide)]
  have hsa : ∀ {A' : Around} {R : Int × Int × Nat → Shared → Prop}, R (1, -1, 2) s → wpAny (model prog w) A' (Builtin.Slice.sliceApplied (.ref sl) (pure (((#[y, z] : Array Value).size : Nat) : Int))) R E s := by
    intro A' R hR
    unfold Builtin.Slice.sliceApplied Builtin.Slice.sliceFields
    refine wpAny_bind (wpAny_bind (wpAny_field hos hds (x := vl) rfl (wpAny_bind (wpAny_field hos hds (x := vu) rfl (wpAny_bind (wpAny_field hos hds (x := vs) rfl (wpAny_pure ?_)))))))
    refine wpAny_bind (HT.slicePart_ ps ?_)
    show wpAny _ _ (if ((-1 : Int) == 0) = true then _ else _) _ _ s
    rw [if_neg (by decide)]
    refine wpAny_bind (HT.slicePart_ pl (wpAny_bind (HT.slicePart_ pu (wpAny_bind (wpAny_pure ?_)))))
    refine wpAny_pure ?_
    show R ((Builtin.Slice.sliceAdjust none none (-1) 2).1, -1, Builtin.Slice.slicePlaces (Builtin.Slice.sliceAdjust none none (-1) 2).1 (Builtin.Slice.sliceAdjust none none (-1) 2).2 (-1)) s
    have e3 : ((Builtin.Slice.sliceAdjust none none (-1) 2).1, (-1 : Int), Builtin.Slice.slicePlaces (Builtin.Slice.sliceAdjust none none (-1) 2).1 (Builtin.Slice.sliceAdjust none none (-1) 2).2 (-1)) = (1, -1, 2) := by decide
    rw [e3]
    exact hR
  refine wpAny_bind (hsa ?_)
  show wpAny _ _ (if (((1 : Int) == 0 && (-1 : Int) == 1 && (2 : Nat) == (#[y, z] : Array Value).size)) = true then _ else _) _ _ s
  rw [if_neg (by simp)]
  have hpick : ((List.range 2).filterMap fun (k : Nat) => (#[y, z] : Array Value)[((1 : Int) + (k : Int) * (-1)).toNat]?).toArray = #[z, y] := by rfl
  rw [hpick]
  have htake : sizeOk (.seq (#[z, y] : Array Value)) := by show 2 ≤ sizeLine; decide
  first
    | exact wpAny_bind (m := Builtin.Tuple.tupleExact _) (wpAny_newObj_type (wpAny_pure ⟨_, rfl, wpAny_pure h⟩) htake)
    | exact wpAny_bind (m := Builtin.Tuple.tupleExact _) (wpAny_newObj_type (wpAny_bind (wpAny_pure (wpAny_pure ⟨_, rfl, wpAny_pure h⟩))) htake)
    | exact wpAny_bind (wpAny_bind (m := Builtin.Tuple.tupleExact _) (wpAny_newObj_type (wpAny_pure (wpAny_pure ⟨_, rfl, wpAny_pure h⟩)) htake))
    | exact wpAny_bind (wpAny_bind (m := Builtin.Tuple.tupleExact _) (wpAny_newObj_type (wpAny_pure ⟨_, rfl, wpAny_pure h⟩) htake))
theorem pe_revP {e : Expr} {te : TE} {k : Nat} {p1 p2 p3 pos : Pos} (he : PE X e te) : PE X (.Subscript e (.Slice none none (some (.UnaryOp .USub (.Constant (.int 1) k p1) p2)) p3) pos) (tRevP X.K te) := by
  refine ⟨fun pins s σ H Q I h => ?_⟩
  refine Subscript_ (thn (he.run pins s σ H _ I h) fun v s1 ⟨x, H1, I1, r1, q1⟩ => ?_)
  obtain ⟨a, y, z, ex, hx, q⟩ := q1
  subst ex
  cases r1
  have hst : PO X (some (.UnaryOp .USub (.Constant (.int 1) k p1) p2)) (tPart (tUn (rU fun i => .int (-i)) (tC (.int 1)))) := po_some (pe_un un_neg pe_int)
  refine wpAny_Slice (thn (po_none.run pins s1 σ H1 (fun o H2 => o = none ∧ H2 = H1) I1 ⟨rfl, rfl⟩) fun vl s2 ⟨l, H2, I2, pl, el, e2⟩ => ?_)
  subst el e2
  refine thn (po_none.run pins s2 σ H2 (fun o H3 => o = none ∧ H3 = H2) I2 ⟨rfl, rfl⟩) fun vu s3 ⟨u, H3, I3, pu, eu, e3⟩ => ?_
  subst eu e3
  refine thn (hst.run pins s3 σ H3 (fun o H4 => o = some (-1) ∧ H4 = H3) I3 ⟨1, rfl, -1, rfl, rfl, rfl⟩) fun vs s4 ⟨o, H4, I4, ps, eo, e4⟩ => ?_
  subst eo e4
  have I5 : Inv X pins σ H4 { s4 with heap := s4.heap.push { cls := .type "slice", data := .fields #[vl, vu, vs] } } := I4.kept (t' := s4.toks) fun b ob q => Heap.get?_push_of_some _ q
  obtain ⟨its, r, ht, hz⟩ := I5.tuple hx
  obtain ⟨u1, u2, rfl, r1, r2⟩ := vals2 r
  show wpAny (model X.prog X.w) X.A (subscriptTail e (.Slice none none (some (.UnaryOp .USub (.Constant (.int 1) k p1) p2)) p3) (.ref a) (.ref s4.heap.objs.size)) (EP X pins σ Q) X.xe { s4 with heap := s4.heap.push { cls := .type "slice", data := .fields #[vl, vu, vs] } }
  refine tail_any (ops := [.ref a, .ref s4.heap.objs.size]) ht.typeIs (PyProof.Rows.slot_tuple_getitem.lookup) ?_ (by with_unfolding_all rfl)
  refine getItem_revP ht (Heap.IsSliceOf.new _ vl vu vs) pl pu ps ?_
  refine ⟨.ref _, _, I5.laid (t' := s4.toks) (o := .tup [z, y]) (fun b ob q => Heap.get?_push_of_some _ q) (Nat.le_refl _) ?_, rfl, q _ (I5.hok.fresh (Nat.le_refl _))⟩
  exact ⟨by show 2 ≤ sizeLine; decide, _, .cons r2 (.cons r1 .nil), IsTup.new _ _⟩
end
end Ak
set_option Elab.async false
set_option linter.all false
set_option maxRecDepth 100000
set_option maxHeartbeats 4000000
/-! AkR4: a tuple so many times, once too. -/
namespace Ak
open PySem PySem.Spec PyProof.Rows L2 Evl
theorem tuple_mul1 (l : Addr) (items : Array Value) (n : Nat) (dd : Option Addr) (sl : Array (Option Value)) (u : Tok) :
    Meets (Builtin.«tuple.__mul__» ⟨[.ref l, .int 1 u], []⟩) (fun _ R s => s.heap.get? l = some { cls := .type "tuple", dict := dd, data := .seq items n, slots := sl } ∧ R (.ok (.ret (Value.ref l))) s) :=
  .of_wp fun prog w A R s h => by
    obtain ⟨hp, g, d, tk, os⟩ := s
    obtain ⟨hl, h⟩ := h
    have f1 := AutoSeq1.idx_int
    have c0 : (decide ((1 : Int) < -(2 ^ 63)) || decide ((1 : Int) ≥ 2 ^ 63)) = false := by decide
    have c1 : (items.isEmpty || (1 : Int) == 1) = true := by simp
    wp_walk using wpAny_loadPart' hl
    repeat (first
      | (refine wpAny_ite_false (decide_eq_false (by rw [c0]; exact Bool.false_ne_true)) ?_; wp_walk using wpAny_loadPart' hl)
      | (refine wpAny_ite_true (decide_eq_true c1) ?_; wp_walk using wpAny_loadPart' hl))
    exact ⟨_, rfl, h⟩

def rRepA (K : PySem.W.Frag) : R2 := fun x y H Q => ∃ l k xs, x = .ref l ∧ y = .int k ∧ SqT K H l xs ∧ xs ≠ [] ∧ 1 ≤ k ∧ k ≤ 1000 ∧ xs.length ≤ 1000 ∧ (k = 1 → Q (.ref l) H) ∧ (2 ≤ k → ∀ p, H p = none → Q (.ref p) (upd H p (.tup (List.replicate k.toNat xs).flatten)))
section
variable {X : Cx}
theorem op_repA : OpR X (binaryOp .Mult) (rRepA X.K) := by
  intro pins s σ H x y v u Q I rx ry h
  obtain ⟨l, k, xs, rfl, rfl, hT, hne, h1, h2, hz, q1, q2⟩ := h
  by_cases hk : 2 ≤ k
  · exact op_repT pins s σ H _ _ v u Q I rx ry ⟨l, k, xs, rfl, rfl, hT, hne, hk, h2, hz, q2 hk⟩
  · obtain rfl : k = 1 := by omega
    cases rx
    obtain ⟨t, rfl⟩ := ry
    obtain ⟨its, r, ⟨⟨cls, dd, data, sl⟩, ho, hc, n, hd⟩, hs⟩ := I.tuple hT
    simp only at hc hd
    subst hc hd
    refine wpAny_binaryOp_repeat_ref (T := "tuple") (U := "int") (by decide) ⟨_, ho, rfl⟩ (fun s' => typeIs_int s' 1 t) noFill_tuple_mul F.fills_int_mul F.slot_int_rmul repeat_tuple F.slot_int_index.lookup
      (call_meets F.slot_int_rmul (typeIs_int s 1 t) F.entry_int_rmul (F.args_int_rmul_2 _ _) (int_rmul_tuple 1 t l its.toArray n dd sl)
        ⟨ho, rfl, ⟨_, ho, rfl⟩, call_meets F.slot_tuple_mul ⟨_, ho, rfl⟩ F.entry_tuple_mul (F.args_tuple_mul_2 _ _) (tuple_mul1 l its.toArray n dd sl t) ⟨ho, ?_⟩⟩)
    exact ⟨.ref l, H, I, rfl, q1 rfl⟩
end
end Ak
set_option Elab.async false
set_option linter.all false
set_option maxRecDepth 100000
set_option maxHeartbeats 4000000
/-! AkR5: enumerate of a tuple, zip of a tuple and a list. -/
namespace Ak
open PySem PySem.Spec PyProof.Rows L2 Evl
/-- n new pairs, while G holds -/
def ItP (G : Hp → Prop) (n : Nat) (f g : Nat → Option V) : It :=
  ⟨fun i H => i < n ∧ G H, fun i H v H' => ∃ T x y, v = .ref T ∧ H T = none ∧ H' = upd H T (.tup [x, y]) ∧ f i = some x ∧ g i = some y, fun i H => i = n ∧ G H⟩
theorem turn_enumT {P : Program} {w : World} {K : PySem.W.Frag} {elts : List Expr} {kk : Nat} {tpos : Pos} {xs : List V} (a e it : Addr) :
    Turn P w K (.Tuple elts kk tpos) (ItP (fun H => H a = some (.tup xs)) xs.length (fun i => some (.int (i : Nat))) (fun i => xs[i]?)) [e, it] e (fun i h => (∃ old, IsEnum h e it ((i : Nat) : Int) old) ∧ h.IsTupleIter it a i ∧ e ≠ it) where
  mem := by simp
  obj := fun i h st b hb => by
    obtain ⟨⟨old, he⟩, ⟨o, ho, hc, hd⟩, _⟩ := st
    have e' : b = e ∨ b = it := by simpa using hb
    rcases e' with z | z
    · rw [z]; exact ⟨_, he, fun v q => nomatch q⟩
    · rw [z]; exact ⟨o, ho, fun v q => by rw [hd] at q; cases q⟩
  keep := fun i h h' st k => let ⟨⟨old, he⟩, hi, hne⟩ := st; ⟨⟨old, k e (by simp) _ he⟩, hi.at fun o q => k it (by simp) o q, hne⟩
  item := by
    intro X hP hw hK hc i pins s σ H E I hf st hg
    subst hP hw hK
    obtain ⟨⟨old, he⟩, hit, hne⟩ := st
    obtain ⟨hi, hq⟩ := hg
    obtain ⟨its, rv, p, hz⟩ := I.tuple (SqT.of hq)
    have ln := rv.length
    have hea : e ≠ a := fun z => by have := (hf e (by simp)).1; rw [z, hq] at this; cases this
    have hia : a ≠ it := fun z => by have := (hf it (by simp)).1; rw [← z, hq] at this; cases this
    have hel : e < s.heap.objs.size := Heap.lt_size he
    have hil : it < s.heap.objs.size := by obtain ⟨_, q, _⟩ := hit; exact Heap.lt_size q
    have D := Draws.tuple (prog := X.prog) (w := X.w) (A := X.A.in1) (I.ok.hd hc) it a hia its.toArray
    refine wpAny_pyNext_enum_itemD D he ⟨hit, p⟩ (by simpa using (by omega : i < its.length)) hne (by simp [hne, hea]) fun u h' tk hx ho hit' hT hsz hk => ?_
    obtain ⟨x, hx1, rx⟩ : ∃ x, xs[i]? = some x ∧ RelV x u := by
      have hx2 : xs[i]? = some xs[i] := List.getElem?_eq_getElem hi
      obtain ⟨u', h1, h2⟩ := rv.get hx2
      have hx3 : its[i]? = some u := by simpa using hx
      rw [hx3] at h1
      cases h1
      exact ⟨_, hx2, h2⟩
    refine ⟨_, rfl, wpAny_letOwnedTupleGo_enum (s := { s with heap := h', toks := tk + 1 }) ho fun h'' he' sb => ?_⟩
    have hT2 : h''.get? s.heap.objs.size = some { cls := .type "tuple", data := .seq #[.int i tk, u] } := (sb.2 _ (Nat.ne_of_gt hel)).trans hT
    have new : ObjOk X.prog X.w (upd H s.heap.objs.size (.tup [.int (i : Nat), x])) h'' s.heap.objs.size (.tup [.int (i : Nat), x]) :=
      ⟨by show 2 ≤ sizeLine; decide, [.int i tk, u], .cons ⟨_, rfl⟩ (.cons rx .nil), ⟨_, hT2, rfl, _, rfl⟩⟩
    have I1 : Inv X pins σ (upd H s.heap.objs.size (.tup [.int (i : Nat), x])) { s with heap := h'', toks := tk + 1 } :=
      I.turnedNew (ch := [e, it]) (fun b ob hb q => (sb.2 b (fun z => hb (by simp [z]))).trans (hk b ob (fun z => hb (by simp [z])) (fun z => hb (by simp [z])) q)) hf (Nat.le_refl _) new
    refine ⟨.ref s.heap.objs.size, _, I1, rfl, ⟨_, .int (i : Nat), x, rfl, I.hok.fresh (Nat.le_refl _), rfl, rfl, hx1⟩, ⟨⟨u, ?_⟩, hit'.1.at fun o q => (sb.2 it (Ne.symm hne)).trans q, hne⟩, fun b hb => ?_⟩
    · have e1 : ((i + 1 : Nat) : Int) = (i : Int) + 1 := by omega
      rw [e1]; exact he'
    · have hb' : b < s.heap.objs.size := by
        have e' : b = e ∨ b = it := by simpa using hb
        rcases e' with z | z
        · rw [z]; exact hel
        · rw [z]; exact hil
      rw [upd_ne (Nat.ne_of_lt hb')]
      exact (hf b hb).1
  done := by
    intro X hP hw hK hc i pins s σ H E I hf st hg
    subst hP hw hK
    obtain ⟨⟨old, he⟩, hit, hne⟩ := st
    obtain ⟨hi, hq⟩ := hg
    obtain ⟨its, rv, p, hz⟩ := I.tuple (SqT.of hq)
    have ln := rv.length
    have hia : a ≠ it := fun z => by have := (hf it (by simp)).1; rw [← z, hq] at this; cases this
    have D := Draws.tuple (prog := X.prog) (w := X.w) (A := X.A.in1) (I.ok.hd hc) it a hia its.toArray
    obtain ⟨f0, f1, f2, f3, f4, f5⟩ := hf it (by simp)
    have hi2 : i = its.toArray.size := by simp; omega
    rw [hi2] at hit
    exact wpAny_pyNext_enum_endD D he ⟨hit, p⟩ fun h' eb => ⟨rfl, I.turned (t' := s.toks) (fun b o hb q => eb b o hb q) f0 f1 f3 f4 f5⟩
  self := fun A i s Q E st h => let ⟨⟨_, he⟩, _⟩ := st; wpAny_pyIter_enum he h
set_option maxHeartbeats 1000000 in
theorem meets_enum1 {v : Value} {o : Obj} {G : Heap → Prop} (B : Begins v o G) :
    Meets (Builtin.«enumerate.__new__» ⟨[.type "enumerate", v], []⟩) (fun _ R s => G s.heap ∧
      R (.ok (.ret (.ref (s.heap.push o).objs.size))) { s with heap := (s.heap.push o).push { cls := .type "enumerate", data := .fields #[.none, .bool false, .ref s.heap.objs.size, rawInt 0, .none, .none] } }) :=
  .of_wp fun prog w A R s h => by
    obtain ⟨hp, g, d, tk, os⟩ := s; obtain ⟨h1, h⟩ := h
    have hsub := sub_enumerate
    have q1 : ∀ {A' : Around} {E : Value → Shared → Prop} {Q : Value → Shared → Prop}, Q (.ref hp.objs.size) ⟨hp.push o, g, d, tk, os⟩ → wpAny (model prog w) A' (pyIter v) Q E ⟨hp, g, d, tk, os⟩ :=
      fun q => B.iter prog w _ _ ⟨hp, g, d, tk, os⟩ _ h1 q
    wp_walk using q1
    refine wpAny_stack_any fun st => wpAny_pure ?_
    split
    · rename_i c _ _ _ _ _
      cases (c == Value.type "enumerate")
      · wp_walk using q1
        exact ⟨_, rfl, h⟩
      · wp_walk using q1
        exact ⟨_, rfl, h⟩
    · wp_walk using q1
      exact ⟨_, rfl, h⟩
theorem call_enumT {prog : Program} {w : World} {A : Around} {E : Value → Shared → Prop} {s : Shared} {l : Addr} {items : Array Value} {Q : Value → Shared → Prop} (hL : s.heap.IsTuple l items)
    (h : ∀ h', IsEnum h' (s.heap.objs.size + 1) s.heap.objs.size 0 .none → h'.IsTupleIter s.heap.objs.size l 0 → h'.objs.size = s.heap.objs.size + 2 →
      (∀ b o, s.heap.get? b = some o → h'.get? b = some o) → Q (.ref (s.heap.objs.size + 1)) { s with heap := h' }) :
    wpAny (model prog w) A (call (.type "enumerate") [.ref l]) Q E s := by
  have B := begins_tuple l items
  refine callType_new F.called_enumerate (by decide) (F.typeCall_enumerate_1 _) (F.newCall_enumerate_1 _) (fun obj => F.args_object_init_2 obj _) F.entry_enumerate_new
    (meets_enum1 B) ⟨hL, ?_⟩
  have hz : (s.heap.push { cls := .type "tuple_iterator", data := .fields #[.ref l, .int 0 0] }).objs.size = s.heap.objs.size + 1 := Heap.size_push ..
  show _ ∧ _
  rw [hz]
  have he : IsEnum ((s.heap.push { cls := .type "tuple_iterator", data := .fields #[.ref l, .int 0 0] }).push
      { cls := .type "enumerate", data := .fields #[.none, .bool false, .ref s.heap.objs.size, rawInt 0, .none, .none] }) (s.heap.objs.size + 1) s.heap.objs.size 0 .none := by
    have := Heap.get?_push_size (s.heap.push { cls := .type "tuple_iterator", data := .fields #[.ref l, .int 0 0] })
      (o := { cls := .type "enumerate", data := .fields #[.none, .bool false, .ref s.heap.objs.size, rawInt 0, .none, .none] }) rfl
    rw [hz] at this; exact this
  refine ⟨⟨_, he, rfl⟩, h _ he ⟨_, Heap.get?_push_of_some _ (Heap.get?_push_size _ rfl), rfl, rfl⟩ (by rw [Heap.size_push, hz]) fun b o x => Heap.get?_push_of_some _ (Heap.get?_push_of_some _ x)⟩
def iEnumT (ta : TA) : TI := fun σ H R => ta σ H fun vs H1 => ∃ a xs, vs = [.ref a] ∧ H1 a = some (.tup xs) ∧ R (ItP (fun H => H a = some (.tup xs)) xs.length (fun i => some (.int (i : Nat))) (fun i => xs[i]?)) H1
theorem pi_enumT {X : Cx} {e : Expr} {ta : TA} {p pos tpos : Pos} {elts : List Expr} {kk : Nat} (hg : Gl X "enumerate") (hm : X.mg "enumerate" = none) (ha : PA X [e] ta) (hs : starEach [e] X.env = [(false, eval e X.env)] := by rfl) :
    PI X (.Tuple elts kk tpos) (.Call (.Name "enumerate" p) [e] [] pos) (iEnumT ta) := by
  refine ⟨fun pins s σ H R I h => ?_⟩
  refine Call_ (ld_blt I hg hm boot_enumerate (PyProof.Rows.callWith_type1 (thn (ha.run pos pins s σ H _ I h) fun us s1 ⟨vs, H1, I1, r1, q1⟩ => ?_) hs rfl))
  obtain ⟨a, xs, ex, hq, q⟩ := q1
  subst ex
  cases r1 with
  | cons r rr =>
    cases rr
    cases r
    obtain ⟨its, rv, p', hz⟩ := I1.tuple (SqT.of hq)
    refine call_enumT (show s1.heap.IsTuple a its.toArray from p') fun h' he hit hsz hk => wpAny_pyIter_enum he ?_
    have I2 : Inv X pins σ H1 { s1 with heap := h' } := I1.kept (t' := s1.toks) hk
    refine ⟨s1.heap.objs.size + 1, [s1.heap.objs.size + 1, s1.heap.objs.size], _, _, H1, rfl, I2, turn_enumT a (s1.heap.objs.size + 1) s1.heap.objs.size, ⟨⟨.none, he⟩, hit, Nat.succ_ne_self _⟩, fun b hb => ?_, q⟩
    have e' : b = s1.heap.objs.size + 1 ∨ b = s1.heap.objs.size := by simpa using hb
    have hle : s1.heap.objs.size ≤ b := by
      rcases e' with z | z
      · rw [z]; exact Nat.le_add_right _ _
      · rw [z]; exact Nat.le_refl _
    exact I1.fpOk hle (I1.hok.fresh hle)
end Ak
set_option Elab.async false
set_option linter.all false
set_option maxRecDepth 100000
set_option maxHeartbeats 4000000
/-! AkR6: zip of a tuple and a list. -/
namespace Ak
open PySem PySem.Spec PyProof.Rows L2 Evl
theorem turn_zipM {P : Program} {w : World} {K : PySem.W.Frag} {elts : List Expr} {kk : Nat} {tpos : Pos} {xs ys : List V} {a b z TI TO i1 i2 : Addr} {n : Nat} (S : ZipSep2 z TI TO i1 i2 [i1, a] [i2, b]) (hai : a ≠ i1) (hbi : b ≠ i2) (hn1 : n = xs.length) (hn2 : n = ys.length) :
    Turn P w K (.Tuple elts kk tpos) (ItP (fun H => H a = some (.tup xs) ∧ H b = some (.lst ys)) n (fun i => xs[i]?) (fun i => ys[i]?)) [z, TI, TO, i1, i2] z (fun i h => IsZip h z TI TO .none ∧ IsTupOf2 h TI (.ref i1) (.ref i2) ∧ (∃ x y, IsTupOf2 h TO x y) ∧ h.IsTupleIter i1 a i ∧ h.IsListIter i2 b i) where
  mem := by simp
  obj := fun i h st c hc => by
    obtain ⟨hz, hTI, ⟨x, y, hTO⟩, ⟨o1, e1, _, d1⟩, ⟨o2, e2, _, d2⟩⟩ := st
    have e' : c = z ∨ c = TI ∨ c = TO ∨ c = i1 ∨ c = i2 := by simpa using hc
    rcases e' with q | q | q | q | q
    · rw [q]; exact ⟨_, hz, fun v q => nomatch q⟩
    · rw [q]; exact ⟨_, hTI, fun v q => nomatch q⟩
    · rw [q]; exact ⟨_, hTO, fun v q => nomatch q⟩
    · rw [q]; exact ⟨o1, e1, fun v q => by rw [d1] at q; cases q⟩
    · rw [q]; exact ⟨o2, e2, fun v q => by rw [d2] at q; cases q⟩
  keep := fun i h h' st k => by
    obtain ⟨hz, hTI, ⟨x, y, hTO⟩, h1, h2⟩ := st
    exact ⟨k z (by simp) _ hz, k TI (by simp) _ hTI, ⟨x, y, k TO (by simp) _ hTO⟩, h1.at fun o q => k i1 (by simp) o q, h2.at fun o q => k i2 (by simp) o q⟩
  item := by
    intro X hP hw hK hc i pins s σ H E I hf st hg
    subst hP hw hK
    obtain ⟨hz, hTI, ⟨x0, y0, hTO⟩, h1, h2⟩ := st
    obtain ⟨hi, hqx, hqy⟩ := hg
    obtain ⟨its, rv, p, _⟩ := I.tuple (SqT.of hqx)
    obtain ⟨its2, rv2, p2, _⟩ := I.list (SqL.of hqy)
    have ln1 := rv.length
    have ln2 := rv2.length
    have hzl : z < s.heap.objs.size := Heap.lt_size hz
    have D1 := Draws.tuple (prog := X.prog) (w := X.w) (A := X.A.in1) (I.ok.hd hc) i1 a hai its.toArray
    have D2 := Draws.list (prog := X.prog) (w := X.w) (A := X.A.in1) (I.ok.hd hc) i2 b hbi its2.toArray
    have hi1 : i < xs.length := by omega
    have hi2 : i < ys.length := by omega
    refine wpAny_pyNext_zipD2_item S D1 D2 hz hTI hTO ⟨h1, p⟩ ⟨h2, p2.isList⟩ (by simpa using (by omega : i < its.length)) (by simpa using (by omega : i < its2.length)) fun u1 u2 h' tk hx hy z' TO' h1' h2' hT hsz hk => ?_
    obtain ⟨x, hx1, rx⟩ : ∃ x, xs[i]? = some x ∧ RelV x u1 := by
      have hx2 : xs[i]? = some xs[i] := List.getElem?_eq_getElem hi1
      obtain ⟨u', g1, g2⟩ := rv.get hx2
      have hx3 : its[i]? = some u1 := by simpa using hx
      rw [hx3] at g1
      cases g1
      exact ⟨_, hx2, g2⟩
    obtain ⟨y, hy1, ry⟩ : ∃ y, ys[i]? = some y ∧ RelV y u2 := by
      have hx2 : ys[i]? = some ys[i] := List.getElem?_eq_getElem hi2
      obtain ⟨u', g1, g2⟩ := rv2.get hx2
      have hx3 : its2[i]? = some u2 := by simpa using hy
      rw [hx3] at g1
      cases g1
      exact ⟨_, hx2, g2⟩
    refine ⟨_, rfl, wpAny_letOwnedTupleGo_zip (s := { s with heap := h', toks := tk }) z' fun h'' z'' sb => ?_⟩
    have hT2 : h''.get? s.heap.objs.size = some { cls := .type "tuple", data := .seq #[u1, u2] } := (sb.2 _ (Nat.ne_of_gt hzl)).trans hT
    have new : ObjOk X.prog X.w (upd H s.heap.objs.size (.tup [x, y])) h'' s.heap.objs.size (.tup [x, y]) :=
      ⟨by show 2 ≤ sizeLine; decide, [u1, u2], .cons rx (.cons ry .nil), ⟨_, hT2, rfl, _, rfl⟩⟩
    have I1 : Inv X pins σ (upd H s.heap.objs.size (.tup [x, y])) { s with heap := h'', toks := tk } :=
      I.turnedNew (t' := tk) (ch := [z, TI, TO, i1, i2]) (fun c o hb q => (sb.2 c (fun q' => hb (by simp [q']))).trans (hk c o (fun q' => hb (by simp [q'])) (fun q' => hb (by simp [q'])) (fun q' => hb (by simp [q'])) (fun q' => hb (by simp [q'])) q)) hf (Nat.le_refl _) new
    refine ⟨.ref s.heap.objs.size, _, I1, rfl, ⟨_, x, y, rfl, I.hok.fresh (Nat.le_refl _), rfl, hx1, hy1⟩, ⟨z'', ?_, ⟨u1, u2, ?_⟩, ?_, ?_⟩, fun c hcm => ?_⟩
    · exact (sb.2 _ S.TIz).trans (hk _ _ S.TIz S.TITO S.TIi1 S.TIi2 hTI)
    · exact (sb.2 _ S.TOz).trans TO'
    · exact h1'.1.at fun o q => (sb.2 _ (Ne.symm S.zi1)).trans q
    · exact h2'.1.at fun o q => (sb.2 _ (Ne.symm S.zi2)).trans q
    · have hlt : c < s.heap.objs.size := by
        have e' : c = z ∨ c = TI ∨ c = TO ∨ c = i1 ∨ c = i2 := by simpa using hcm
        rcases e' with q | q | q | q | q
        · rw [q]; exact hzl
        · rw [q]; exact Heap.lt_size hTI
        · rw [q]; exact Heap.lt_size hTO
        · rw [q]; obtain ⟨_, e1, _⟩ := h1; exact Heap.lt_size e1
        · rw [q]; obtain ⟨_, e2, _⟩ := h2; exact Heap.lt_size e2
      rw [upd_ne (Nat.ne_of_lt hlt)]
      exact (hf c hcm).1
  done := by
    intro X hP hw hK hc i pins s σ H E I hf st hg
    subst hP hw hK
    obtain ⟨hz, hTI, ⟨x0, y0, hTO⟩, h1, h2⟩ := st
    obtain ⟨hi, hqx, hqy⟩ := hg
    obtain ⟨its, rv, p, _⟩ := I.tuple (SqT.of hqx)
    obtain ⟨its2, rv2, p2, _⟩ := I.list (SqL.of hqy)
    have ln1 := rv.length
    have ln2 := rv2.length
    have D1 := Draws.tuple (prog := X.prog) (w := X.w) (A := X.A.in1) (I.ok.hd hc) i1 a hai its.toArray
    have D2 := Draws.list (prog := X.prog) (w := X.w) (A := X.A.in1) (I.ok.hd hc) i2 b hbi its2.toArray
    have e1 : i = its.toArray.size := by simp; omega
    have e2 : i = its2.toArray.size := by simp; omega
    exact wpAny_pyNext_zipD2_end S D1 D2 hz hTI hTO ⟨h1, p⟩ ⟨h2, p2.isList⟩ (Nat.le_of_eq e1) (Nat.le_of_eq e2) (.inl e1) fun h' tk hk => ⟨rfl, I.turnedL (t' := tk) (ch := [z, TI, TO, i1, i2]) (fun c o hb q =>
      hk c o (fun q' => hb (by simp [q'])) (fun q' => hb (by simp [q'])) (fun q' => hb (by simp [q'])) (fun q' => hb (by simp [q'])) q) hf⟩
  self := fun A i s Q E st h => wpAny_pyIter_zip st.1 h
def iZipM (ta : TA) : TI := fun σ H R => ta σ H fun vs H1 => ∃ a b xs ys n, vs = [.ref a, .ref b] ∧ H1 a = some (.tup xs) ∧ H1 b = some (.lst ys) ∧ n = xs.length ∧ n = ys.length ∧ R (ItP (fun H => H a = some (.tup xs) ∧ H b = some (.lst ys)) n (fun i => xs[i]?) (fun i => ys[i]?)) H1
theorem pi_zipM {X : Cx} {e e2 : Expr} {ta : TA} {p pos tpos : Pos} {elts : List Expr} {kk : Nat} (hg : Gl X "zip") (hm : X.mg "zip" = none) (ha : PA X [e, e2] ta)
    (hs : starEach [e, e2] X.env = (false, eval e X.env) :: starEach [e2] X.env := by rfl) (hpl : (backTo pos (starEach [e2] X.env)).any (·.1) = false := by rfl) :
    PI X (.Tuple elts kk tpos) (.Call (.Name "zip" p) [e, e2] [] pos) (iZipM ta) := by
  refine ⟨fun pins s σ H R I h => ?_⟩
  refine Call_ (ld_blt I hg hm PyProof.Rows.boot_zip (PyProof.Rows.callWith_type1 (thn (ha.run pos pins s σ H _ I h) fun us s1 ⟨vs, H1, I1, r1, q1⟩ => ?_) hs hpl))
  obtain ⟨a, b, xs, ys, n, ex, hqx, hqy, hn1, hn2, q⟩ := q1
  subst ex
  cases r1 with
  | cons r rr =>
    cases rr with
    | cons r' rr =>
      cases rr
      cases r
      cases r'
      obtain ⟨its, rv, p1, _⟩ := I1.tuple (SqT.of hqx)
      obtain ⟨its2, rv2, p2, _⟩ := I1.list (SqL.of hqy)
      have la : a < s1.heap.objs.size := by obtain ⟨_, e, _⟩ := id p1; exact Heap.lt_size e
      have lb : b < s1.heap.objs.size := p2.lt
      refine zip_begins2 (begins_tuple a its.toArray) (begins_list b its2.toArray) (show s1.heap.IsTuple a its.toArray from p1) p2.isList fun h' hz hTI hTO h1 h2 hsz hk => wpAny_pyIter_zip hz ?_
      have I2 : Inv X pins σ H1 { s1 with heap := h' } := I1.kept (t' := s1.toks) hk
      have S : ZipSep2 (s1.heap.objs.size + 4) (s1.heap.objs.size + 2) (s1.heap.objs.size + 3) s1.heap.objs.size (s1.heap.objs.size + 1) [s1.heap.objs.size, a] [s1.heap.objs.size + 1, b] :=
        zip_sep2 (fun c hc => by rw [List.mem_singleton.mp hc]; exact la) (fun c hc => by rw [List.mem_singleton.mp hc]; exact lb)
      refine ⟨s1.heap.objs.size + 4, [s1.heap.objs.size + 4, s1.heap.objs.size + 2, s1.heap.objs.size + 3, s1.heap.objs.size, s1.heap.objs.size + 1], _, _, H1, rfl, I2, turn_zipM S (Nat.ne_of_lt la) (Nat.ne_of_lt (Nat.lt_succ_of_lt lb)) hn1 hn2, ⟨hz, hTI, ⟨_, _, hTO⟩, ⟨_, h1, rfl, rfl⟩, ⟨_, h2, rfl, rfl⟩⟩, fun c hcm => ?_, q⟩
      have e' : c = s1.heap.objs.size + 4 ∨ c = s1.heap.objs.size + 2 ∨ c = s1.heap.objs.size + 3 ∨ c = s1.heap.objs.size ∨ c = s1.heap.objs.size + 1 := by simpa using hcm
      have hle : s1.heap.objs.size ≤ c := by
        rcases e' with z | z | z | z | z
        · rw [z]; exact Nat.le_add_right _ _
        · rw [z]; exact Nat.le_add_right _ _
        · rw [z]; exact Nat.le_add_right _ _
        · rw [z]; exact Nat.le_refl _
        · rw [z]; exact Nat.le_add_right _ _
      exact I1.fpOk hle (I1.hok.fresh hle)
end Ak
set_option Elab.async false
set_option linter.all false
set_option maxRecDepth 100000
set_option maxHeartbeats 2000000
/-! AkM: the mathematics: tables, margins, certificates, weak duality. -/
namespace Ak
abbrev Pl := Nat × Nat
abbrev Tab := List (List Int)
def tat (T : Tab) (p : Pl) : Int := (T.getD p.1 []).getD p.2 0
def sumF {α : Type} (hs : List α) (f : α → Int) : Int := (hs.map f).sum
theorem sumF_nil {α : Type} (f : α → Int) : sumF [] f = 0 := rfl
theorem sumF_cons {α : Type} (a : α) (hs : List α) (f : α → Int) : sumF (a :: hs) f = f a + sumF hs f := by simp [sumF]
theorem sumF_app {α : Type} (xs ys : List α) (f : α → Int) : sumF (xs ++ ys) f = sumF xs f + sumF ys f := by simp [sumF]
theorem sumF_congr {α : Type} {hs : List α} {f g : α → Int} (h : ∀ x ∈ hs, f x = g x) : sumF hs f = sumF hs g := by
  unfold sumF
  rw [List.map_congr_left h]
theorem sumF_add {α : Type} (hs : List α) (f g : α → Int) : sumF hs (fun x => f x + g x) = sumF hs f + sumF hs g := by
  induction hs with
  | nil => rfl
  | cons a hs ih => rw [sumF_cons, sumF_cons, sumF_cons, ih]; omega
theorem sumF_mulL {α : Type} (hs : List α) (f : α → Int) (k : Int) : sumF hs (fun x => k * f x) = k * sumF hs f := by
  induction hs with
  | nil => simp [sumF]
  | cons a hs ih => rw [sumF_cons, sumF_cons, ih, Int.mul_add]
theorem sumF_le {α : Type} {hs : List α} {f g : α → Int} (h : ∀ x ∈ hs, f x ≤ g x) : sumF hs f ≤ sumF hs g := by
  induction hs with
  | nil => exact Int.le_refl _
  | cons a hs ih =>
    rw [sumF_cons, sumF_cons]
    have h1 := h a (by simp)
    have h2 := ih fun x m => h x (by simp [m])
    omega
theorem sumF_zero {α : Type} {hs : List α} {f : α → Int} (h : ∀ x ∈ hs, f x = 0) : sumF hs f = 0 := by
  induction hs with
  | nil => rfl
  | cons a hs ih =>
    rw [sumF_cons, h a (by simp), ih fun x m => h x (by simp [m])]
    rfl
theorem sumF_perm {α : Type} {xs ys : List α} (f : α → Int) (h : xs.Perm ys) : sumF xs f = sumF ys f := by
  induction h with
  | nil => rfl
  | cons a _ ih => rw [sumF_cons, sumF_cons, ih]
  | swap a b l => rw [sumF_cons, sumF_cons, sumF_cons, sumF_cons]; omega
  | trans _ _ i1 i2 => exact i1.trans i2
theorem sumF_map {α β : Type} (xs : List α) (g : α → β) (f : β → Int) : sumF (xs.map g) f = sumF xs (fun x => f (g x)) := by
  unfold sumF
  rw [List.map_map]
  rfl
/-- one item alone gives something -/
theorem sumF_one {α : Type} [DecidableEq α] {hs : List α} (nd : hs.Nodup) {p : α} (hp : p ∈ hs) (k : Int) : sumF hs (fun h => if h = p then k else 0) = k := by
  induction hs with
  | nil => cases hp
  | cons a hs ih =>
    rw [sumF_cons]
    rw [List.nodup_cons] at nd
    rcases List.mem_cons.mp hp with e | hp
    · subst e
      rw [if_pos rfl, sumF_zero]
      · omega
      · intro x hx
        rw [if_neg]
        intro e
        subst e
        exact nd.1 hx
    · rw [if_neg, ih nd.2 hp]
      · omega
      · intro e
        subst e
        exact nd.1 hp
/-- by a key below N -/
theorem sumF_key {α : Type} (hs : List α) (key : α → Nat) (f : α → Int) (u : Nat → Int) (N : Nat) (h : ∀ x ∈ hs, key x < N) :
    sumF hs (fun x => f x * u (key x)) = sumF (List.range N) (fun i => u i * sumF (hs.filter fun x => decide (key x = i)) f) := by
  induction hs with
  | nil =>
    rw [sumF_nil, sumF_zero]
    intro i _
    simp [sumF]
  | cons a hs ih =>
    rw [sumF_cons, ih fun x m => h x (by simp [m])]
    have hk := h a (by simp)
    have e : sumF (List.range N) (fun i => u i * sumF ((a :: hs).filter fun x => decide (key x = i)) f) = sumF (List.range N) (fun i => (if i = key a then f a * u (key a) else 0) + u i * sumF (hs.filter fun x => decide (key x = i)) f) := by
      refine sumF_congr fun i _ => ?_
      by_cases q : key a = i
      · subst q
        rw [List.filter_cons_of_pos (by simp), sumF_cons, if_pos rfl]
        grind
      · rw [List.filter_cons_of_neg (by simpa using q), if_neg (fun z => q z.symm)]
        omega
    rw [e, sumF_add, sumF_one List.nodup_range (List.mem_range.mpr hk)]

/-! ### margins and certificates, of functions -/
def wt (u v : Nat → Int) (h : Pl) : Int := u h.1 + v h.2
/-- the same margins on hs -/
def EqM (hs : List Pl) (t c : Pl → Int) : Prop := ∀ u v : Nat → Int, sumF hs (fun h => t h * wt u v h) = sumF hs (fun h => c h * wt u v h)
theorem EqM.refl (hs : List Pl) (c : Pl → Int) : EqM hs c c := fun _ _ => rfl
theorem EqM.symm {hs : List Pl} {t c : Pl → Int} (h : EqM hs t c) : EqM hs c t := fun u v => (h u v).symm
theorem EqM.trans {hs : List Pl} {a b c : Pl → Int} (h : EqM hs a b) (k : EqM hs b c) : EqM hs a c := fun u v => (h u v).trans (k u v)
def ind (h p : Pl) : Int := if h = p then 1 else 0
/-- a table that can be, with n at p -/
structure CTab (c : Pl → Int) (hs : List Pl) (p : Pl) (n : Int) (t : Pl → Int) : Prop where
  nn : ∀ h ∈ hs, 0 ≤ t h
  mar : EqM hs t c
  val : t p = n
/-- a paper for n -/
structure CPap (less : Bool) (c : Pl → Int) (hs : List Pl) (p : Pl) (n : Int) (u v : Nat → Int) : Prop where
  lt : less = true → ∀ h ∈ hs, wt u v h ≤ ind h p
  gt : less = false → ∀ h ∈ hs, ind h p ≤ wt u v h
  sum : sumF hs (fun h => c h * wt u v h) = n
def Cert (less : Bool) (c : Pl → Int) (hs : List Pl) (p : Pl) (n : Int) : Prop := (∃ t, CTab c hs p n t) ∧ ∃ u v, CPap less c hs p n u v
theorem sumF_ind {hs : List Pl} (nd : hs.Nodup) {p : Pl} (hp : p ∈ hs) (t : Pl → Int) : sumF hs (fun h => t h * ind h p) = t p := by
  rw [← sumF_one nd hp (t p)]
  refine sumF_congr fun h _ => ?_
  unfold ind
  by_cases e : h = p
  · rw [if_pos e, if_pos e, e]; omega
  · rw [if_neg e, if_neg e]; omega
theorem weak_lo {c t : Pl → Int} {hs : List Pl} {p : Pl} {n m : Int} {u v : Nat → Int} (nd : hs.Nodup) (hp : p ∈ hs) (P : CPap true c hs p n u v) (T : CTab c hs p m t) : n ≤ m := by
  rw [← P.sum, ← T.mar u v, ← T.val, ← sumF_ind nd hp t]
  exact sumF_le fun h hh => Int.mul_le_mul_of_nonneg_left (P.lt rfl h hh) (T.nn h hh)
theorem weak_hi {c t : Pl → Int} {hs : List Pl} {p : Pl} {n m : Int} {u v : Nat → Int} (nd : hs.Nodup) (hp : p ∈ hs) (P : CPap false c hs p n u v) (T : CTab c hs p m t) : m ≤ n := by
  rw [← P.sum, ← T.mar u v, ← T.val, ← sumF_ind nd hp t]
  exact sumF_le fun h hh => Int.mul_le_mul_of_nonneg_left (P.gt rfl h hh) (T.nn h hh)
theorem Cert.uniq {less : Bool} {c : Pl → Int} {hs : List Pl} {p : Pl} {n m : Int} (nd : hs.Nodup) (hp : p ∈ hs) (a : Cert less c hs p n) (b : Cert less c hs p m) : n = m := by
  obtain ⟨⟨t, T⟩, u, v, P⟩ := a
  obtain ⟨⟨t', T'⟩, u', v', P'⟩ := b
  cases less with
  | true => exact Int.le_antisymm (weak_lo nd hp P T') (weak_lo nd hp P' T)
  | false => exact Int.le_antisymm (weak_hi nd hp P' T) (weak_hi nd hp P T')
/-- what hangs on the hidden alone -/
theorem Cert.cong {less : Bool} {c c' : Pl → Int} {hs : List Pl} {p : Pl} {n : Int} (h : EqM hs c c') (a : Cert less c hs p n) : Cert less c' hs p n := by
  obtain ⟨⟨t, T⟩, u, v, P⟩ := a
  exact ⟨⟨t, T.nn, T.mar.trans h, T.val⟩, u, v, P.lt, P.gt, by rw [← h u v]; exact P.sum⟩
theorem EqM.of_on {hs : List Pl} {c c' : Pl → Int} (h : ∀ x ∈ hs, c x = c' x) : EqM hs c c' := fun u v => sumF_congr fun x hx => by rw [h x hx]
/-- places moved by a one-to-one map of rows and one of columns -/
theorem Cert.move {less : Bool} {c c' : Pl → Int} {hs hs' : List Pl} {p : Pl} {n : Int} {f g : Nat → Nat} (hperm : hs'.Perm (hs.map fun h => (f h.1, g h.2))) (inv : ∃ f' g' : Nat → Nat, (∀ h ∈ hs, f' (f h.1) = h.1 ∧ g' (g h.2) = h.2)) (hp : p ∈ hs)
    (hc : ∀ h ∈ hs, c' (f h.1, g h.2) = c h) (a : Cert less c hs p n) : Cert less c' hs' (f p.1, g p.2) n := by
  obtain ⟨f', g', hi⟩ := inv
  obtain ⟨⟨t, T⟩, u, v, P⟩ := a
  have back : ∀ h ∈ hs, ((f' (f h.1), g' (g h.2)) : Pl) = h := fun h hh => by rw [(hi h hh).1, (hi h hh).2]
  have mem : ∀ k ∈ hs', ∃ h ∈ hs, k = (f h.1, g h.2) := fun k hk => by
    obtain ⟨h, h1, h2⟩ := List.mem_map.mp (hperm.mem_iff.mp hk)
    exact ⟨h, h1, h2.symm⟩
  have sum' : ∀ (F : Pl → Int), sumF hs' F = sumF hs (fun h => F (f h.1, g h.2)) := fun F => by rw [sumF_perm F hperm, sumF_map]
  have indE : ∀ h ∈ hs, ind (f h.1, g h.2) (f p.1, g p.2) = ind h p := fun h hh => by
    unfold ind
    by_cases e : h = p
    · subst e; rw [if_pos rfl, if_pos rfl]
    · rw [if_neg e, if_neg]
      intro z
      have z1 : f h.1 = f p.1 := congrArg Prod.fst z
      have z2 : g h.2 = g p.2 := congrArg Prod.snd z
      refine e ?_
      rw [← back h hh, ← back p hp, z1, z2]
  refine ⟨⟨fun q => t (f' q.1, g' q.2), fun k hk => ?_, fun u0 v0 => ?_, ?_⟩, fun i => u (f' i), fun j => v (g' j), fun e k hk => ?_, fun e k hk => ?_, ?_⟩
  · obtain ⟨h, hh, rfl⟩ := mem k hk
    show 0 ≤ t (f' (f h.1), g' (g h.2))
    rw [back h hh]
    exact T.nn h hh
  · rw [sum', sum']
    have := T.mar (fun i => u0 (f i)) (fun j => v0 (g j))
    refine (sumF_congr fun h hh => ?_).trans (this.trans (sumF_congr fun h hh => ?_))
    · show t (f' (f h.1), g' (g h.2)) * _ = _
      rw [back h hh]
      rfl
    · rw [hc h hh]
      rfl
  · show t (f' (f p.1), g' (g p.2)) = n
    rw [back p hp]
    exact T.val
  · obtain ⟨h, hh, rfl⟩ := mem k hk
    rw [indE h hh]
    have := P.lt e h hh
    unfold wt at this ⊢
    show u (f' (f h.1)) + v (g' (g h.2)) ≤ _
    rw [(hi h hh).1, (hi h hh).2]
    exact this
  · obtain ⟨h, hh, rfl⟩ := mem k hk
    rw [indE h hh]
    have := P.gt e h hh
    unfold wt at this ⊢
    show _ ≤ u (f' (f h.1)) + v (g' (g h.2))
    rw [(hi h hh).1, (hi h hh).2]
    exact this
  · rw [sum', ← P.sum]
    refine sumF_congr fun h hh => ?_
    rw [hc h hh]
    unfold wt
    show c h * (u (f' (f h.1)) + v (g' (g h.2))) = _
    rw [(hi h hh).1, (hi h hh).2]
/-- rows and columns exchanged -/
theorem Cert.flip {less : Bool} {c c' : Pl → Int} {hs hs' : List Pl} {p : Pl} {n : Int} (hperm : hs'.Perm (hs.map fun h => (h.2, h.1))) (hc : ∀ h ∈ hs, c' (h.2, h.1) = c h) (a : Cert less c hs p n) : Cert less c' hs' (p.2, p.1) n := by
  obtain ⟨⟨t, T⟩, u, v, P⟩ := a
  have mem : ∀ k ∈ hs', ∃ h ∈ hs, k = (h.2, h.1) := fun k hk => by
    obtain ⟨h, h1, h2⟩ := List.mem_map.mp (hperm.mem_iff.mp hk)
    exact ⟨h, h1, h2.symm⟩
  have sum' : ∀ (F : Pl → Int), sumF hs' F = sumF hs (fun h => F (h.2, h.1)) := fun F => by rw [sumF_perm F hperm, sumF_map]
  have indE : ∀ h : Pl, ind (h.2, h.1) (p.2, p.1) = ind h p := fun h => by
    unfold ind
    by_cases e : h = p
    · subst e; rw [if_pos rfl, if_pos rfl]
    · rw [if_neg e, if_neg]
      intro z
      have z1 : h.2 = p.2 := congrArg Prod.fst z
      have z2 : h.1 = p.1 := congrArg Prod.snd z
      exact e (Prod.ext z2 z1)
  refine ⟨⟨fun q => t (q.2, q.1), fun k hk => ?_, fun u0 v0 => ?_, T.val⟩, v, u, fun e k hk => ?_, fun e k hk => ?_, ?_⟩
  · obtain ⟨h, hh, rfl⟩ := mem k hk
    exact T.nn h hh
  · rw [sum', sum']
    have := T.mar v0 u0
    refine (sumF_congr fun h hh => ?_).trans (this.trans (sumF_congr fun h hh => ?_))
    · show t h * (u0 h.2 + v0 h.1) = t h * (v0 h.1 + u0 h.2)
      rw [Int.add_comm]
    · show c h * (v0 h.1 + u0 h.2) = c' (h.2, h.1) * (u0 h.2 + v0 h.1)
      rw [hc h hh, Int.add_comm]
  · obtain ⟨h, hh, rfl⟩ := mem k hk
    rw [indE h]
    have := P.lt e h hh
    unfold wt at this ⊢
    show v h.2 + u h.1 ≤ _
    omega
  · obtain ⟨h, hh, rfl⟩ := mem k hk
    rw [indE h]
    have := P.gt e h hh
    unfold wt at this ⊢
    show _ ≤ v h.2 + u h.1
    omega
  · rw [sum', ← P.sum]
    refine sumF_congr fun h hh => ?_
    rw [hc h hh]
    unfold wt
    show c h * (v h.2 + u h.1) = c h * (u h.1 + v h.2)
    rw [Int.add_comm]
/-- counts so many times -/
theorem Cert.scale {less : Bool} {c : Pl → Int} {hs : List Pl} {p : Pl} {n k : Int} (hk : 0 ≤ k) (a : Cert less c hs p n) : Cert less (fun q => c q * k) hs p (n * k) := by
  obtain ⟨⟨t, T⟩, u, v, P⟩ := a
  have sc : ∀ (f : Pl → Int) (u0 v0 : Nat → Int), sumF hs (fun h => f h * k * wt u0 v0 h) = k * sumF hs (fun h => f h * wt u0 v0 h) := fun f u0 v0 => by
    rw [← sumF_mulL]
    refine sumF_congr fun h _ => ?_
    grind
  refine ⟨⟨fun q => t q * k, fun h hh => Int.mul_nonneg (T.nn h hh) hk, fun u0 v0 => ?_, by rw [← T.val]⟩, u, v, P.lt, P.gt, ?_⟩
  · rw [sc, sc, T.mar u0 v0]
  · rw [sc, P.sum, Int.mul_comm]
/-- one place more hidden -/
theorem Cert.more {less : Bool} {c : Pl → Int} {hs hs' : List Pl} {p q : Pl} {n m : Int} (hperm : hs'.Perm (q :: hs)) (nd' : hs'.Nodup) (hp : p ∈ hs) (hq : 0 ≤ c q) (hqn : q ∉ hs) (a : Cert less c hs p n) (b : Cert less c hs' p m) : (less = true → m ≤ n) ∧ (less = false → n ≤ m) := by
  obtain ⟨⟨t, T⟩, u, v, P⟩ := a
  obtain ⟨⟨t', T'⟩, u', v', P'⟩ := b
  have pne : p ≠ q := fun e => hqn (e ▸ hp)
  have W : CTab c hs' p n (fun h => if h = q then c q else t h) := by
    refine ⟨fun h hh => ?_, fun u0 v0 => ?_, ?_⟩
    · show 0 ≤ if h = q then c q else t h
      by_cases e : h = q
      · rw [if_pos e]; exact hq
      · rw [if_neg e]
        rcases List.mem_cons.mp (hperm.mem_iff.mp hh) with z | z
        · exact absurd z e
        · exact T.nn h z
    · rw [sumF_perm _ hperm, sumF_perm _ hperm, sumF_cons, sumF_cons, if_pos rfl, ← T.mar u0 v0]
      congr 1
      refine sumF_congr fun h hh => ?_
      rw [if_neg (fun e : h = q => hqn (e ▸ hh))]
    · show (if p = q then c q else t p) = n
      rw [if_neg pne]
      exact T.val
  have hp' : p ∈ hs' := hperm.mem_iff.mpr (List.mem_cons_of_mem _ hp)
  refine ⟨fun e => ?_, fun e => ?_⟩
  · subst e
    exact weak_lo nd' hp' P' W
  · subst e
    exact weak_hi nd' hp' P' W
/-- the given counts are between -/
theorem Cert.between {c : Pl → Int} {hs : List Pl} {p : Pl} {n m : Int} (nd : hs.Nodup) (hp : p ∈ hs) (nn : ∀ h ∈ hs, 0 ≤ c h) (a : Cert true c hs p n) (b : Cert false c hs p m) : n ≤ c p ∧ c p ≤ m := by
  obtain ⟨_, u, v, P⟩ := a
  obtain ⟨_, u', v', P'⟩ := b
  have W : CTab c hs p (c p) c := ⟨nn, EqM.refl _ _, rfl⟩
  exact ⟨weak_lo nd hp P W, weak_hi nd hp P' W⟩
end Ak
set_option Elab.async false
set_option linter.all false
set_option maxRecDepth 100000
set_option maxHeartbeats 2000000
/-! AkA: the algorithm's mathematics: tables that can be, what is reached, roads, leading round, papers of cuts. -/
namespace Ak
/-! ### tables -/
def setT (T : Tab) (p : Pl) (x : Int) : Tab := T.set p.1 ((T.getD p.1 []).set p.2 x)
def inT (T : Tab) (p : Pl) : Prop := p.1 < T.length ∧ p.2 < (T.getD p.1 []).length
theorem getD_set_self {α : Type} (l : List α) (i : Nat) (x d : α) (h : i < l.length) : (l.set i x).getD i d = x := by
  rw [List.getD_eq_getElem?_getD, List.getElem?_set_self h]
  rfl
theorem getD_set_ne {α : Type} (l : List α) {i j : Nat} (x d : α) (h : i ≠ j) : (l.set i x).getD j d = l.getD j d := by
  rw [List.getD_eq_getElem?_getD, List.getElem?_set_ne h, ← List.getD_eq_getElem?_getD]
theorem tat_set {T : Tab} {p : Pl} (h : inT T p) (x : Int) (q : Pl) : tat (setT T p x) q = if q = p then x else tat T q := by
  obtain ⟨p1, p2⟩ := p
  obtain ⟨q1, q2⟩ := q
  unfold tat setT
  by_cases e1 : p1 = q1
  · subst e1
    show (((T.set p1 ((T.getD p1 []).set p2 x)).getD p1 [])).getD q2 0 = _
    rw [getD_set_self _ _ _ _ h.1]
    by_cases e2 : p2 = q2
    · subst e2
      rw [if_pos rfl, getD_set_self _ _ _ _ h.2]
    · rw [if_neg (fun z => e2 (congrArg Prod.snd z).symm), getD_set_ne _ _ _ e2]
  · show (((T.set p1 ((T.getD p1 []).set p2 x)).getD q1 [])).getD q2 0 = _
    rw [getD_set_ne _ _ _ e1, if_neg (fun z => e1 (congrArg Prod.fst z).symm)]
def shp (T : Tab) : List Nat := T.map List.length
theorem getD_map_len (T : Tab) (i : Nat) : (T.getD i []).length = (shp T).getD i 0 := by
  unfold shp
  rw [List.getD_eq_getElem?_getD, List.getD_eq_getElem?_getD, List.getElem?_map]
  cases T[i]? <;> rfl
theorem inT_shp {T S : Tab} (h : shp T = shp S) (p : Pl) : inT T p ↔ inT S p := by
  have hl : T.length = S.length := by
    have := congrArg List.length h
    simpa [shp] using this
  unfold inT
  rw [hl, getD_map_len, getD_map_len, h]
theorem shp_set (T : Tab) (p : Pl) (x : Int) : shp (setT T p x) = shp T := by
  unfold shp setT
  refine List.ext_getElem? fun i => ?_
  rw [List.getElem?_map, List.getElem?_map, List.getElem?_set]
  by_cases e : p.1 = i
  · subst e
    by_cases hl : p.1 < T.length
    · rw [if_pos rfl, if_pos hl, List.getElem?_eq_getElem hl]
      simp [List.getD_eq_getElem?_getD, List.getElem?_eq_getElem hl]
    · rw [if_pos rfl, if_neg hl, List.getElem?_eq_none (by omega)]
  · rw [if_neg e]
theorem tat_out {T : Tab} {p : Pl} (h : ¬ inT T p) : tat T p = 0 := by
  unfold tat
  rw [List.getD_eq_getElem?_getD, List.getElem?_eq_none]
  · rfl
  · unfold inT at h
    by_cases h1 : p.1 < T.length
    · have := fun z => h ⟨h1, z⟩
      omega
    · rw [List.getD_eq_getElem?_getD, List.getElem?_eq_none (by omega)]
      exact Nat.zero_le _
/-- T can be, where C stands -/
structure Feas (C : Tab) (hs : List Pl) (T : Tab) : Prop where
  shape : shp T = shp C
  nn : ∀ q, 0 ≤ tat T q
  off : ∀ q, q ∉ hs → tat T q = tat C q
  mar : EqM hs (tat T) (tat C)
theorem Feas.refl {C : Tab} (hs : List Pl) (h : ∀ q, 0 ≤ tat C q) : Feas C hs C := ⟨rfl, h, fun _ _ => rfl, EqM.refl _ _⟩
theorem sumF_upd {hs : List Pl} (nd : hs.Nodup) {p : Pl} (hp : p ∈ hs) (f g w : Pl → Int) (x : Int) (h1 : ∀ q, q ≠ p → g q = f q) (h2 : g p = f p + x) : sumF hs (fun h => g h * w h) = sumF hs (fun h => f h * w h) + x * w p := by
  rw [← sumF_one nd hp (x * w p), ← sumF_add]
  refine sumF_congr fun h _ => ?_
  by_cases e : h = p
  · subst e
    rw [if_pos rfl, h2]
    grind
  · rw [if_neg e, h1 h e]
    omega
/-- a step of a road: its place, and what it changes by -/
abbrev Stp := Nat × Nat × Int
def splc (x : Stp) : Pl := (x.1, x.2.1)
def sby (x : Stp) : Int := x.2.2
def augS (T : Tab) (k : Int) (x : Stp) : Tab := setT T (splc x) (tat T (splc x) + sby x * k)
def aug (T : Tab) (k : Int) (L : List Stp) : Tab := L.foldl (fun T x => augS T k x) T
theorem aug_shp (k : Int) : ∀ (L : List Stp) (T : Tab), shp (aug T k L) = shp T
  | [], _ => rfl
  | x :: L, T => (aug_shp k L (augS T k x)).trans (shp_set _ _ _)
theorem aug_mar {hs : List Pl} (nd : hs.Nodup) (k : Int) (u v : Nat → Int) : ∀ (L : List Stp) (T : Tab), (∀ x ∈ L, splc x ∈ hs) → (∀ h ∈ hs, inT T h) →
    sumF hs (fun h => tat (aug T k L) h * wt u v h) = sumF hs (fun h => tat T h * wt u v h) + k * sumF L (fun x => sby x * wt u v (splc x))
  | [], T, _, _ => by
    rw [sumF_nil]
    show sumF hs (fun h => tat T h * wt u v h) = _
    omega
  | x :: L, T, h1, h2 => by
    have hx := h1 x (by simp)
    have ih := aug_mar nd k u v L (augS T k x) (fun y m => h1 y (by simp [m])) (fun h m => (inT_shp (shp_set _ _ _) h).mpr (h2 h m))
    show sumF hs (fun h => tat (aug (augS T k x) k L) h * wt u v h) = _
    rw [ih, sumF_cons, sumF_upd nd hx (tat T) (tat (augS T k x)) (wt u v) (sby x * k)]
    · grind
    · intro q hq
      unfold augS
      rw [tat_set (h2 _ hx), if_neg hq]
    · unfold augS
      rw [tat_set (h2 _ hx), if_pos rfl]
theorem aug_at (k : Int) : ∀ (L : List Stp) (T : Tab), (∀ x ∈ L, inT T (splc x)) → (L.map splc).Nodup → ∀ q : Pl, (q ∉ L.map splc → tat (aug T k L) q = tat T q) ∧ ∀ x ∈ L, splc x = q → tat (aug T k L) q = tat T q + sby x * k
  | [], T, _, _, q => ⟨fun _ => rfl, fun x hx => by cases hx⟩
  | y :: L, T, h1, nd, q => by
    rw [List.map_cons, List.nodup_cons] at nd
    have hy := h1 y (by simp)
    have ih := aug_at k L (augS T k y) (fun x m => (inT_shp (shp_set _ _ _) _).mpr (h1 x (by simp [m]))) nd.2 q
    refine ⟨fun hq => ?_, fun x hx e => ?_⟩
    · rw [List.map_cons, List.mem_cons, not_or] at hq
      show tat (aug (augS T k y) k L) q = _
      rw [ih.1 hq.2]
      unfold augS
      rw [tat_set hy, if_neg hq.1]
    · show tat (aug (augS T k y) k L) q = _
      rcases List.mem_cons.mp hx with z | z
      · subst z
        subst e
        rw [ih.1 nd.1]
        unfold augS
        rw [tat_set hy, if_pos rfl]
      · rw [ih.2 x z e]
        unfold augS
        rw [tat_set hy, if_neg]
        intro e2
        exact nd.1 (List.mem_map.mpr ⟨x, z, by rw [e, e2]⟩)
/-- a round leads from a table that can be to another one -/
theorem Feas.aug {C T : Tab} {hs : List Pl} {L : List Stp} {k : Int} (nd : hs.Nodup) (hin : ∀ h ∈ hs, inT C h) (F : Feas C hs T) (hL : ∀ x ∈ L, splc x ∈ hs) (ndL : (L.map splc).Nodup) (round : ∀ u v : Nat → Int, sumF L (fun x => sby x * wt u v (splc x)) = 0)
    (hk : 0 ≤ k) (hb : ∀ x ∈ L, (sby x = 1) ∨ (sby x = -1 ∧ k ≤ tat T (splc x))) : Feas C hs (aug T k L) := by
  have hinT : ∀ h ∈ hs, inT T h := fun h hh => (inT_shp F.shape h).mpr (hin h hh)
  have hat := fun q => aug_at k L T (fun x hx => hinT _ (hL x hx)) ndL q
  refine ⟨(aug_shp k L T).trans F.shape, fun q => ?_, fun q hq => ?_, fun u v => ?_⟩
  · by_cases hq : q ∈ L.map splc
    · obtain ⟨x, hx, e⟩ := List.mem_map.mp hq
      rw [(hat q).2 x hx e]
      have h0 := F.nn q
      rcases hb x hx with b | ⟨b, c⟩
      · rw [b]; omega
      · rw [b]
        rw [e] at c
        omega
    · rw [(hat q).1 hq]
      exact F.nn q
  · rw [(hat q).1 (fun z => ?_)]
    · exact F.off q hq
    · obtain ⟨x, hx, e⟩ := List.mem_map.mp z
      exact hq (e ▸ hL x hx)
  · rw [aug_mar nd k u v L T hL hinT, round u v, F.mar u v]
    omega

/-! ### rows and columns, and where one comes from them -/
inductive Nd where
  | row (i : Nat)
  | col (j : Nat)
  deriving DecidableEq
def Nd.ix : Nd → Nat
  | .row i => i
  | .col j => j
def Edge (T : Tab) (os : List Pl) : Nd → Nd → Prop
  | .row i, .col j => (i, j) ∈ os
  | .col j, .row i => (i, j) ∈ os ∧ 0 < tat T (i, j)
  | .row _, .row _ => False
  | .col _, .col _ => False
def succs (T : Tab) (os : List Pl) : Nd → List Nd
  | .row i => (os.filter fun p => decide (p.1 = i)).map fun p => .col p.2
  | .col j => (os.filter fun p => decide (p.2 = j) && decide (0 < tat T p)).map fun p => .row p.1
theorem mem_succs {T : Tab} {os : List Pl} {a b : Nd} : b ∈ succs T os a ↔ Edge T os a b := by
  cases a with
  | row i =>
    unfold succs
    rw [List.mem_map]
    constructor
    · rintro ⟨p, hp, rfl⟩
      rw [List.mem_filter] at hp
      have e : p.1 = i := by simpa using hp.2
      show (i, p.2) ∈ os
      rw [← e]
      exact hp.1
    · intro h
      cases b with
      | row _ => exact h.elim
      | col j => exact ⟨(i, j), List.mem_filter.mpr ⟨h, by simp⟩, rfl⟩
  | col j =>
    unfold succs
    rw [List.mem_map]
    constructor
    · rintro ⟨p, hp, rfl⟩
      rw [List.mem_filter] at hp
      simp only [Bool.and_eq_true, decide_eq_true_eq] at hp
      show (p.1, j) ∈ os ∧ 0 < tat T (p.1, j)
      rw [← hp.2.1]
      exact ⟨hp.1, hp.2.2⟩
    · intro h
      cases b with
      | row i => exact ⟨(i, j), List.mem_filter.mpr ⟨h.1, by simp [h.2]⟩, rfl⟩
      | col _ => exact h.elim

/-! ### what is reached, each with the one ahead -/
abbrev Ent := Nd × Option Nd
def look (es : List Ent) (x : Nd) : Option (Option Nd) := (es.find? fun e => decide (e.1 = x)).map (·.2)
structure Tree (E : Nd → Nd → Prop) (s : Nd) (es : List Ent) : Prop where
  head : es[0]? = some (s, none)
  nd : (es.map (·.1)).Nodup
  par : ∀ (k : Nat) (x a : Nd), es[k]? = some (x, some a) → ∃ (j : Nat) (o : Option Nd), j < k ∧ es[j]? = some (a, o) ∧ E a x
  root : ∀ (k : Nat) (x : Nd), es[k]? = some (x, none) → k = 0
theorem look_at {es : List Ent} (nd : (es.map (·.1)).Nodup) {k : Nat} {x : Nd} {o : Option Nd} (h : es[k]? = some (x, o)) : look es x = some o := by
  induction es generalizing k with
  | nil => simp at h
  | cons e es ih =>
    rw [List.map_cons, List.nodup_cons] at nd
    unfold look
    cases k with
    | zero =>
      simp only [List.getElem?_cons_zero, Option.some.injEq] at h
      subst h
      rw [List.find?_cons_of_pos (by simp)]
      rfl
    | succ k =>
      have h' : es[k]? = some (x, o) := by simpa using h
      rw [List.find?_cons_of_neg]
      · exact ih nd.2 h'
      · intro z
        have z' : e.1 = x := by simpa using z
        refine nd.1 ?_
        rw [z']
        exact List.mem_map.mpr ⟨(x, o), List.mem_of_getElem? h', rfl⟩
theorem look_mem {es : List Ent} {x : Nd} {o : Option Nd} (h : look es x = some o) : ∃ k : Nat, es[k]? = some (x, o) := by
  unfold look at h
  cases hf : es.find? fun e => decide (e.1 = x) with
  | none => rw [hf] at h; cases h
  | some e =>
    rw [hf] at h
    have h1 := List.find?_some hf
    have h2 := List.mem_of_find?_eq_some hf
    obtain ⟨k, hk, e2⟩ := List.mem_iff_getElem.mp h2
    refine ⟨k, ?_⟩
    rw [List.getElem?_eq_getElem hk, e2]
    have h3 : e.1 = x := by simpa using h1
    have h4 : e.2 = o := Option.some.inj h
    rw [← h3, ← h4]
theorem look_none {es : List Ent} {x : Nd} : look es x = none ↔ x ∉ es.map (·.1) := by
  constructor
  · intro h z
    obtain ⟨e, he, e2⟩ := List.mem_map.mp z
    unfold look at h
    rw [Option.map_eq_none_iff, List.find?_eq_none] at h
    exact h e he (by simpa using e2)
  · intro h
    cases hl : look es x with
    | none => rfl
    | some o =>
      obtain ⟨k, hk⟩ := look_mem hl
      exact absurd (List.mem_map.mpr ⟨_, List.mem_of_getElem? hk, rfl⟩) h
theorem Tree.one {E : Nd → Nd → Prop} (s : Nd) : Tree E s [(s, none)] := by
  refine ⟨rfl, by simp, fun k x a h => ?_, fun k x h => ?_⟩
  · cases k with
    | zero => simp at h
    | succ k => simp at h
  · cases k with
    | zero => rfl
    | succ k => simp at h
theorem Tree.snoc {E : Nd → Nd → Prop} {s x a : Nd} {es : List Ent} (t : Tree E s es) (hx : x ∉ es.map (·.1)) (ha : a ∈ es.map (·.1)) (he : E a x) : Tree E s (es ++ [(x, some a)]) := by
  have hl : 0 < es.length := (List.getElem?_eq_some_iff.mp t.head).1
  refine ⟨by rw [List.getElem?_append_left hl]; exact t.head, ?_, fun k y b h => ?_, fun k y h => ?_⟩
  · rw [List.map_append, List.nodup_append]
    refine ⟨t.nd, by simp, ?_⟩
    intro z hz w hw
    simp only [List.map_cons, List.map_nil, List.mem_singleton] at hw
    subst hw
    intro e
    subst e
    exact hx hz
  · by_cases hk : k < es.length
    · rw [List.getElem?_append_left hk] at h
      obtain ⟨j, o, h1, h2, h3⟩ := t.par k y b h
      exact ⟨j, o, h1, by rw [List.getElem?_append_left (by omega)]; exact h2, h3⟩
    · rw [List.getElem?_append_right (by omega)] at h
      have hk0 : k - es.length = 0 := by
        cases hq : k - es.length with
        | zero => rfl
        | succ m => rw [hq] at h; simp at h
      rw [hk0] at h
      simp only [List.getElem?_cons_zero, Option.some.injEq, Prod.mk.injEq] at h
      obtain ⟨rfl, rfl⟩ := h
      obtain ⟨⟨a', o⟩, ho, e2⟩ := List.mem_map.mp ha
      obtain ⟨j, hj, e3⟩ := List.mem_iff_getElem.mp ho
      have e2' : a' = a := e2
      subst e2'
      exact ⟨j, o, by omega, by rw [List.getElem?_append_left hj, List.getElem?_eq_getElem hj, e3], he⟩
  · by_cases hk : k < es.length
    · rw [List.getElem?_append_left hk] at h
      exact t.root k y h
    · rw [List.getElem?_append_right (by omega)] at h
      cases hq : k - es.length with
      | zero => rw [hq] at h; simp at h
      | succ m => rw [hq] at h; simp at h

/-! ### roads back -/
def stp (a x : Nd) : Stp := match x with
  | .col j => (a.ix, j, 1)
  | .row i => (i, a.ix, -1)
inductive Rd (es : List Ent) : Nd → List Stp → Prop
  | root {x : Nd} : look es x = some none → Rd es x []
  | step {x a : Nd} {L : List Stp} : look es x = some (some a) → Rd es a L → Rd es x (stp a x :: L)
theorem Tree.road {E : Nd → Nd → Prop} {s : Nd} {es : List Ent} (t : Tree E s es) : ∀ (n k : Nat) (x : Nd) (o : Option Nd), k < n → es[k]? = some (x, o) → ∃ L, Rd es x L ∧ L.length ≤ k
  | 0, _, _, _, h, _ => absurd h (Nat.not_lt_zero _)
  | n + 1, k, x, o, hk, h => by
    cases o with
    | none => exact ⟨[], .root (look_at t.nd h), Nat.zero_le _⟩
    | some a =>
      obtain ⟨j, o', hj, h2, _⟩ := t.par k x a h
      obtain ⟨L, r, hl⟩ := Tree.road t n j a o' (by omega) h2
      exact ⟨_, .step (look_at t.nd h) r, by rw [List.length_cons]; omega⟩
def pot (u v : Nat → Int) : Nd → Int
  | .row i => - u i
  | .col j => v j
/-- what is known of a road's steps -/
structure Steps (T : Tab) (os : List Pl) (L : List Stp) : Prop where
  plc : ∀ x ∈ L, splc x ∈ os
  by1 : ∀ x ∈ L, sby x = 1 ∨ (sby x = -1 ∧ 0 < tat T (splc x))
  nd : (L.map splc).Nodup
/-- the steps of a road come from nodes no later than its end -/
theorem Rd.facts {T : Tab} {os : List Pl} {s : Nd} {es : List Ent} (t : Tree (Edge T os) s es) {x : Nd} {L : List Stp} (r : Rd es x L) : ∀ (k : Nat) (o : Option Nd), es[k]? = some (x, o) →
    Steps T os L ∧ (∀ u v : Nat → Int, sumF L (fun z => sby z * wt u v (splc z)) = pot u v x - pot u v s) ∧ ∀ z ∈ L, ∃ (k' : Nat) (x' a' : Nd), k' ≤ k ∧ es[k']? = some (x', some a') ∧ z = stp a' x' := by
  induction r with
  | @root x hr =>
    intro k o hk
    refine ⟨⟨fun x hx => by simp at hx, fun x hx => by simp at hx, by simp⟩, fun u v => ?_, fun z hz => by simp at hz⟩
    have e := look_at t.nd hk
    rw [hr] at e
    have e' : o = none := (Option.some.inj e).symm
    subst e'
    have hk0 := t.root k x hk
    subst hk0
    rw [t.head] at hk
    cases hk
    rw [sumF_nil]
    omega
  | @step x a L hr r ih =>
    intro k o hk
    have e := look_at t.nd hk
    rw [hr] at e
    have e' : o = some a := (Option.some.inj e).symm
    subst e'
    obtain ⟨j, o', hj, ha, he⟩ := t.par k x a hk
    obtain ⟨⟨p1, p2, p3⟩, tel, orig⟩ := ih j o' ha
    have hstp : splc (stp a x) ∈ os ∧ (sby (stp a x) = 1 ∨ (sby (stp a x) = -1 ∧ 0 < tat T (splc (stp a x)))) ∧ ∀ u v : Nat → Int, sby (stp a x) * wt u v (splc (stp a x)) = pot u v x - pot u v a := by
      cases x with
      | row i =>
        cases a with
        | row _ => exact he.elim
        | col j' =>
          refine ⟨he.1, .inr ⟨rfl, he.2⟩, fun u v => ?_⟩
          show (-1 : Int) * (u i + v j') = - u i - v j'
          omega
      | col j' =>
        cases a with
        | row i =>
          refine ⟨he, .inl rfl, fun u v => ?_⟩
          show (1 : Int) * (u i + v j') = v j' - - u i
          omega
        | col _ => exact he.elim
    have key : splc (stp a x) ∉ L.map splc := by
      intro z
      obtain ⟨y, hy, ey⟩ := List.mem_map.mp z
      obtain ⟨k', x', a', hk', hx', rfl⟩ := orig y hy
      obtain ⟨j', o2, hj', ha', he'⟩ := t.par k' x' a' hx'
      -- the same place means: the same node, or the two ends exchanged
      have two : x' = x ∨ (x' = a ∧ a' = x) := by
        cases x with
        | row i =>
          cases a with
          | row _ => exact he.elim
          | col jj =>
            cases x' with
            | row i' =>
              have e1 : i' = i := congrArg Prod.fst ey
              exact .inl (by rw [e1])
            | col j2 =>
              cases a' with
              | col _ => exact he'.elim
              | row i2 =>
                have e1 : i2 = i := congrArg Prod.fst ey
                have e2 : j2 = jj := congrArg Prod.snd ey
                exact .inr ⟨by rw [e2], by rw [e1]⟩
        | col jj =>
          cases a with
          | col _ => exact he.elim
          | row i =>
            cases x' with
            | col j2 =>
              have e2 : j2 = jj := congrArg Prod.snd ey
              exact .inl (by rw [e2])
            | row i2 =>
              cases a' with
              | row _ => exact he'.elim
              | col j2 =>
                have e1 : i2 = i := congrArg Prod.fst ey
                have e2 : j2 = jj := congrArg Prod.snd ey
                exact .inr ⟨by rw [e1], by rw [e2]⟩
      have uniq : ∀ {i1 i2 : Nat} {y : Nd} {o1 o2 : Option Nd}, es[i1]? = some (y, o1) → es[i2]? = some (y, o2) → i1 = i2 := by
        intro i1 i2 y o1 o2 h1 h2
        have g1 : (es.map (·.1))[i1]? = some y := by rw [List.getElem?_map, h1]; rfl
        have g2 : (es.map (·.1))[i2]? = some y := by rw [List.getElem?_map, h2]; rfl
        obtain ⟨l1, e1⟩ := List.getElem?_eq_some_iff.mp g1
        obtain ⟨l2, e2⟩ := List.getElem?_eq_some_iff.mp g2
        exact (List.getElem_inj t.nd).mp (e1.trans e2.symm)
      rcases two with e1 | ⟨e1, e2⟩
      · subst e1
        have := uniq hx' hk
        omega
      · subst e1 e2
        have := uniq ha' hk
        omega
    refine ⟨⟨fun y hy => ?_, fun y hy => ?_, ?_⟩, fun u v => ?_, fun y hy => ?_⟩
    · rcases List.mem_cons.mp hy with z | z
      · rw [z]; exact hstp.1
      · exact p1 y z
    · rcases List.mem_cons.mp hy with z | z
      · rw [z]; exact hstp.2.1
      · exact p2 y z
    · rw [List.map_cons, List.nodup_cons]
      exact ⟨key, p3⟩
    · rw [sumF_cons, tel u v, hstp.2.2 u v]
      omega
    · rcases List.mem_cons.mp hy with z | z
      · exact ⟨k, x, a, Nat.le_refl _, hk, z⟩
      · obtain ⟨k', x', a', h1, h2, h3⟩ := orig y z
        exact ⟨k', x', a', by omega, h2, h3⟩

/-! ### leading round -/
def endsOf (less : Bool) (p : Pl) : Nd × Nd := if less then (.row p.1, .col p.2) else (.col p.2, .row p.1)
def byOf (less : Bool) : Int := if less then -1 else 1
/-- the round: the road to the end, and the place itself -/
theorem round_ok {C T : Tab} {hs os : List Pl} {p : Pl} {es : List Ent} {L : List Stp} {less : Bool} {pence : Int} (nd : hs.Nodup) (hp : p ∈ hs) (hin : ∀ h ∈ hs, inT C h) (hos : ∀ q, q ∈ os ↔ q ∈ hs ∧ q ≠ p) (F : Feas C hs T)
    (t : Tree (Edge T os) (endsOf less p).1 es) (r : Rd es (endsOf less p).2 L) (hpos : less = true → 0 < tat T p)
    (hmin : ∀ x ∈ L ++ [((p.1, p.2, byOf less) : Stp)], sby x < 0 → pence ≤ tat T (splc x)) (hp0 : 0 ≤ pence) :
    Feas C hs (aug T pence (L ++ [(p.1, p.2, byOf less)])) ∧ tat (aug T pence (L ++ [(p.1, p.2, byOf less)])) p = tat T p + byOf less * pence := by
  have hmemE : ∃ (k : Nat) (o : Option Nd), es[k]? = some ((endsOf less p).2, o) := by
    cases r with
    | root h => obtain ⟨k, hk⟩ := look_mem h; exact ⟨k, _, hk⟩
    | step h _ => obtain ⟨k, hk⟩ := look_mem h; exact ⟨k, _, hk⟩
  obtain ⟨k, o, hk⟩ := hmemE
  obtain ⟨⟨s1, s2, s3⟩, tel, _⟩ := r.facts t k o hk
  have hplast : splc ((p.1, p.2, byOf less) : Stp) = p := rfl
  have ndL : ((L ++ [((p.1, p.2, byOf less) : Stp)]).map splc).Nodup := by
    rw [List.map_append, List.nodup_append]
    refine ⟨s3, by simp, ?_⟩
    intro z hz w hw
    simp only [List.map_cons, List.map_nil, List.mem_singleton] at hw
    rw [hplast] at hw
    subst hw
    obtain ⟨x, hx, e⟩ := List.mem_map.mp hz
    have := (hos _).mp (s1 x hx)
    rw [e] at this
    exact this.2
  have hin' : ∀ x ∈ L ++ [((p.1, p.2, byOf less) : Stp)], splc x ∈ hs := fun x hx => by
    rcases List.mem_append.mp hx with z | z
    · exact ((hos _).mp (s1 x z)).1
    · rw [List.mem_singleton] at z
      rw [z]; exact hp
  refine ⟨F.aug nd hin hin' ndL (fun u v => ?_) hp0 (fun x hx => ?_), ?_⟩
  · rw [sumF_app, tel u v, sumF_cons, sumF_nil]
    show pot u v (endsOf less p).2 - pot u v (endsOf less p).1 + (byOf less * (u p.1 + v p.2) + 0) = 0
    cases less with
    | true =>
      show v p.2 - - u p.1 + ((-1) * (u p.1 + v p.2) + 0) = 0
      omega
    | false =>
      show - u p.1 - v p.2 + (1 * (u p.1 + v p.2) + 0) = 0
      omega
  · have hm := hmin x hx
    rcases List.mem_append.mp hx with z | z
    · rcases s2 x z with b | ⟨b, _⟩
      · exact .inl b
      · exact .inr ⟨b, hm (by rw [b]; decide)⟩
    · rw [List.mem_singleton] at z
      subst z
      cases less with
      | true => exact .inr ⟨rfl, hm (by show (-1 : Int) < 0; decide)⟩
      | false => exact .inl rfl
  · have hinT : ∀ x ∈ L ++ [((p.1, p.2, byOf less) : Stp)], inT T (splc x) := fun x hx => (inT_shp F.shape _).mpr (hin _ (hin' x hx))
    exact (aug_at pence _ T hinT ndL p).2 (p.1, p.2, byOf less) (by simp) rfl
/-- some step takes away -/
theorem round_neg {T : Tab} {os : List Pl} {p : Pl} {es : List Ent} {L : List Stp} {less : Bool} (t : Tree (Edge T os) (endsOf less p).1 es) (r : Rd es (endsOf less p).2 L) (hpos : less = true → 0 < tat T p) :
    (∃ x ∈ L ++ [((p.1, p.2, byOf less) : Stp)], sby x < 0) ∧ ∀ x ∈ L ++ [((p.1, p.2, byOf less) : Stp)], sby x < 0 → 0 < tat T (splc x) := by
  have hmemE : ∃ (k : Nat) (o : Option Nd), es[k]? = some ((endsOf less p).2, o) := by
    cases r with
    | root h => obtain ⟨k, hk⟩ := look_mem h; exact ⟨k, _, hk⟩
    | step h _ => obtain ⟨k, hk⟩ := look_mem h; exact ⟨k, _, hk⟩
  obtain ⟨k, o, hk⟩ := hmemE
  obtain ⟨⟨s1, s2, s3⟩, tel, _⟩ := r.facts t k o hk
  refine ⟨?_, fun x hx hb => ?_⟩
  · cases less with
    | true => exact ⟨(p.1, p.2, -1), by simp [byOf], by show (-1 : Int) < 0; decide⟩
    | false =>
      cases r with
      | root h =>
        exfalso
        obtain ⟨k', hk'⟩ := look_mem h
        have := t.root _ _ hk'
        subst this
        rw [t.head] at hk'
        cases hk'
      | @step x a L' h r' =>
        exact ⟨stp a (.row p.1), List.mem_append_left _ (by show stp a (.row p.1) ∈ stp a (.row p.1) :: L'; simp), by show (-1 : Int) < 0; decide⟩
  · rcases List.mem_append.mp hx with z | z
    · rcases s2 x z with b | ⟨_, b⟩
      · rw [b] at hb
        exact absurd hb (by decide)
      · exact b
    · rw [List.mem_singleton] at z
      subst z
      cases less with
      | true => exact hpos rfl
      | false => exact absurd hb (by show ¬ ((1 : Int) < 0); decide)

/-! ### the paper of a cut -/
def b2 (b : Bool) : Int := if b then 1 else 0
def cutU (less : Bool) (R : Nd → Bool) (i : Nat) : Int := if less then b2 (R (.row i)) else 0 - b2 (R (.row i))
def cutV' (less : Bool) (R : Nd → Bool) (j : Nat) : Int := if less then 0 - b2 (R (.col j)) else b2 (R (.col j))
theorem cut_paper {C T : Tab} {hs os : List Pl} {p : Pl} {R : Nd → Bool} {less : Bool} (nd : hs.Nodup) (hp : p ∈ hs) (hos : ∀ q, q ∈ os ↔ q ∈ hs ∧ q ≠ p) (F : Feas C hs T) (closed : ∀ a b, R a = true → Edge T os a b → R b = true)
    (hs1 : R (endsOf less p).1 = true) (hs2 : R (endsOf less p).2 = false) : CPap less (tat C) hs p (tat T p) (cutU less R) (cutV' less R) := by
  have hw : ∀ h ∈ hs, (less = true → wt (cutU less R) (cutV' less R) h ≤ ind h p) ∧ (less = false → ind h p ≤ wt (cutU less R) (cutV' less R) h) ∧ tat T h * wt (cutU less R) (cutV' less R) h = tat T h * ind h p := by
    intro h hh
    by_cases e : h = p
    · subst e
      cases less with
      | true =>
        have a1 : R (.row h.1) = true := hs1
        have a2 : R (.col h.2) = false := hs2
        have w1 : wt (cutU true R) (cutV' true R) h = 1 := by simp [wt, cutU, cutV', b2, a1, a2]
        have i1 : ind h h = 1 := if_pos rfl
        rw [w1, i1]
        exact ⟨fun _ => Int.le_refl _, (fun z => nomatch z), rfl⟩
      | false =>
        have a1 : R (.col h.2) = true := hs1
        have a2 : R (.row h.1) = false := hs2
        have w1 : wt (cutU false R) (cutV' false R) h = 1 := by simp [wt, cutU, cutV', b2, a1, a2]
        have i1 : ind h h = 1 := if_pos rfl
        rw [w1, i1]
        exact ⟨(fun z => nomatch z), fun _ => Int.le_refl _, rfl⟩
    · have ho : h ∈ os := (hos h).mpr ⟨hh, e⟩
      have i0 : ind h p = 0 := if_neg e
      have e1 : R (.row h.1) = true → R (.col h.2) = true := fun z => closed _ _ z ho
      have e2 : R (.col h.2) = true → R (.row h.1) = false → tat T h = 0 := fun z z2 => by
        by_cases q : 0 < tat T h
        · have := closed (.col h.2) (.row h.1) z ⟨ho, q⟩
          rw [z2] at this
          cases this
        · have := F.nn h
          omega
      rw [i0]
      cases hr : R (.row h.1) with
      | true =>
        have hc := e1 hr
        have w0 : wt (cutU less R) (cutV' less R) h = 0 := by cases less <;> simp [wt, cutU, cutV', b2, hr, hc]
        rw [w0]
        exact ⟨fun _ => Int.le_refl _, fun _ => Int.le_refl _, rfl⟩
      | false =>
        cases hc : R (.col h.2) with
        | true =>
          rw [e2 hc hr]
          cases less with
          | true =>
            have w0 : wt (cutU true R) (cutV' true R) h = -1 := by simp [wt, cutU, cutV', b2, hr, hc]
            rw [w0]
            exact ⟨fun _ => by decide, fun z => (by cases z), by simp⟩
          | false =>
            have w0 : wt (cutU false R) (cutV' false R) h = 1 := by simp [wt, cutU, cutV', b2, hr, hc]
            rw [w0]
            exact ⟨fun z => (by cases z), fun _ => by decide, by simp⟩
        | false =>
          have w0 : wt (cutU less R) (cutV' less R) h = 0 := by cases less <;> simp [wt, cutU, cutV', b2, hr, hc]
          rw [w0]
          exact ⟨fun _ => Int.le_refl _, fun _ => Int.le_refl _, rfl⟩
  refine ⟨fun e h hh => (hw h hh).1 e, fun e h hh => (hw h hh).2.1 e, ?_⟩
  rw [← F.mar]
  rw [sumF_congr fun h hh => (hw h hh).2.2]
  exact sumF_ind nd hp (tat T)
/-- the paper of nought -/
theorem nought_paper {c : Pl → Int} {hs : List Pl} {p : Pl} : CPap true c hs p 0 (fun _ => 0) (fun _ => 0) := by
  refine ⟨fun _ h _ => ?_, (fun e => nomatch e), ?_⟩
  · show (0 : Int) + 0 ≤ ind h p
    unfold ind
    split <;> omega
  · refine sumF_zero fun h _ => ?_
    show c h * (0 + 0) = 0
    simp
/-- how great a place can grow -/
theorem Feas.top {C T : Tab} {hs : List Pl} {p : Pl} (nd : hs.Nodup) (hp : p ∈ hs) (F : Feas C hs T) : tat T p ≤ sumF hs (tat C) := by
  have h1 := F.mar (fun _ => 1) (fun _ => 0)
  have e : ∀ f : Pl → Int, sumF hs (fun h => f h * wt (fun _ => 1) (fun _ => 0) h) = sumF hs f := fun f => sumF_congr fun h _ => by
    show f h * (1 + 0) = f h
    simp
  rw [e, e] at h1
  rw [← h1, ← sumF_ind nd hp (tat T)]
  refine sumF_le fun h _ => ?_
  have := F.nn h
  unfold ind
  split
  · omega
  · omega
end Ak
set_option Elab.async false
set_option linter.all false
set_option maxRecDepth 100000
set_option maxHeartbeats 4000000
/-! AkB: the text by places, facts of its names, data of the program's things. -/
namespace Ak
open PySem PySem.Spec PyProof.Rows L2 Evl
def topS (i : Nat) : Stmt := PySem.Challenge.pw_askround_k73_whole_hidden_counts.main.body.getD i (.Pass ⟨0, 0, 0, 0⟩)
abbrev s_is_whole : Stmt := topS 6
abbrev n_is_whole : List Str := ["thing"]
abbrev p_is_whole : List Str := ["thing"]
theorem sc_is_whole : FnScope n_is_whole p_is_whole (defScope s_is_whole) := ⟨rfl, rfl, rfl, by decide +kernel, rfl, by decide +kernel, by decide +kernel⟩
abbrev s_is_within : Stmt := topS 7
abbrev n_is_within : List Str := ["thing", "low", "high"]
abbrev p_is_within : List Str := ["thing", "low", "high"]
theorem sc_is_within : FnScope n_is_within p_is_within (defScope s_is_within) := ⟨rfl, rfl, rfl, by decide +kernel, rfl, by decide +kernel, by decide +kernel⟩
abbrev s_are_counts : Stmt := topS 11
abbrev n_are_counts : List Str := ["thing", "row", "one"]
abbrev p_are_counts : List Str := ["thing"]
theorem sc_are_counts : FnScope n_are_counts p_are_counts (defScope s_are_counts) := ⟨rfl, rfl, rfl, by decide +kernel, rfl, by decide +kernel, by decide +kernel⟩
abbrev s_is_place : Stmt := topS 12
abbrev n_is_place : List Str := ["counts", "thing"]
abbrev p_is_place : List Str := ["counts", "thing"]
theorem sc_is_place : FnScope n_is_place p_is_place (defScope s_is_place) := ⟨rfl, rfl, rfl, by decide +kernel, rfl, by decide +kernel, by decide +kernel⟩
abbrev s_are_places : Stmt := topS 13
abbrev n_are_places : List Str := ["counts", "thing", "one", "other", "place"]
abbrev p_are_places : List Str := ["counts", "thing"]
theorem sc_are_places : FnScope n_are_places p_are_places (defScope s_are_places) := ⟨rfl, rfl, rfl, by decide +kernel, rfl, by decide +kernel, by decide +kernel⟩
abbrev s_need_hidden : Stmt := topS 14
abbrev n_need_hidden : List Str := ["counts", "hidden"]
abbrev p_need_hidden : List Str := ["counts", "hidden"]
theorem sc_need_hidden : FnScope n_need_hidden p_need_hidden (defScope s_need_hidden) := ⟨rfl, rfl, rfl, by decide +kernel, rfl, by decide +kernel, by decide +kernel⟩
abbrev s_need_place : Stmt := topS 15
abbrev n_need_place : List Str := ["counts", "hidden", "place"]
abbrev p_need_place : List Str := ["counts", "hidden", "place"]
theorem sc_need_place : FnScope n_need_place p_need_place (defScope s_need_place) := ⟨rfl, rfl, rfl, by decide +kernel, rfl, by decide +kernel, by decide +kernel⟩
abbrev s_steps_from : Stmt := topS 16
abbrev n_steps_from : List Str := ["table", "others", "node", "word", "number", "row", "column"]
abbrev p_steps_from : List Str := ["table", "others", "node"]
theorem sc_steps_from : FnScope n_steps_from p_steps_from (defScope s_steps_from) := ⟨rfl, rfl, rfl, by decide +kernel, rfl, by decide +kernel, by decide +kernel⟩
abbrev s_reached_from : Stmt := topS 17
abbrev n_reached_from : List Str := ["table", "others", "node", "found", "waiting", "here", "there"]
abbrev p_reached_from : List Str := ["table", "others", "node"]
theorem sc_reached_from : FnScope n_reached_from p_reached_from (defScope s_reached_from) := ⟨rfl, rfl, rfl, by decide +kernel, rfl, by decide +kernel, by decide +kernel⟩
abbrev s_road_to : Stmt := topS 18
abbrev n_road_to : List Str := ["reached", "node", "found", "ahead"]
abbrev p_road_to : List Str := ["reached", "node"]
theorem sc_road_to : FnScope n_road_to p_road_to (defScope s_road_to) := ⟨rfl, rfl, rfl, by decide +kernel, rfl, by decide +kernel, by decide +kernel⟩
abbrev s_led_round : Stmt := topS 19
abbrev n_led_round : List Str := ["counts", "hidden", "place", "less", "table", "others", "ends", "reached", "road", "pence", "row", "other", "column", "by"]
abbrev p_led_round : List Str := ["counts", "hidden", "place", "less"]
theorem sc_led_round : FnScope n_led_round p_led_round (defScope s_led_round) := ⟨rfl, rfl, rfl, by decide +kernel, rfl, by decide +kernel, by decide +kernel⟩
abbrev s_paper_of : Stmt := topS 20
abbrev n_paper_of : List Str := ["counts", "reached", "less", "rows", "columns", "row", "column"]
abbrev p_paper_of : List Str := ["counts", "reached", "less"]
theorem sc_paper_of : FnScope n_paper_of p_paper_of (defScope s_paper_of) := ⟨rfl, rfl, rfl, by decide +kernel, rfl, by decide +kernel, by decide +kernel⟩
abbrev s_bounds_at : Stmt := topS 21
abbrev n_bounds_at : List Str := ["counts", "hidden", "place", "paper", "row", "column", "low", "reached", "high"]
abbrev p_bounds_at : List Str := ["counts", "hidden", "place"]
theorem sc_bounds_at : FnScope n_bounds_at p_bounds_at (defScope s_bounds_at) := ⟨rfl, rfl, rfl, by decide +kernel, rfl, by decide +kernel, by decide +kernel⟩
abbrev s_left_of : Stmt := topS 22
abbrev n_left_of : List Str := ["counts", "hidden", "rows", "columns", "line", "row", "column"]
abbrev p_left_of : List Str := ["counts", "hidden"]
theorem sc_left_of : FnScope n_left_of p_left_of (defScope s_left_of) := ⟨rfl, rfl, rfl, by decide +kernel, rfl, by decide +kernel, by decide +kernel⟩
abbrev s_can_be : Stmt := topS 23
abbrev n_can_be : List Str := ["counts", "hidden", "thing", "row", "more", "column", "one"]
abbrev p_can_be : List Str := ["counts", "hidden", "thing"]
theorem sc_can_be : FnScope n_can_be p_can_be (defScope s_can_be) := ⟨rfl, rfl, rfl, by decide +kernel, rfl, by decide +kernel, by decide +kernel⟩
abbrev s_are_numbers : Stmt := topS 24
abbrev n_are_numbers : List Str := ["thing", "many", "one"]
abbrev p_are_numbers : List Str := ["thing", "many"]
theorem sc_are_numbers : FnScope n_are_numbers p_are_numbers (defScope s_are_numbers) := ⟨rfl, rfl, rfl, by decide +kernel, rfl, by decide +kernel, by decide +kernel⟩
abbrev s_is_paper : Stmt := topS 25
abbrev n_is_paper : List Str := ["counts", "hidden", "place", "number", "thing", "less", "left", "rows", "columns", "row", "column", "here", "one", "by"]
abbrev p_is_paper : List Str := ["counts", "hidden", "place", "number", "thing", "less"]
theorem sc_is_paper : FnScope n_is_paper p_is_paper (defScope s_is_paper) := ⟨rfl, rfl, rfl, by decide +kernel, rfl, by decide +kernel, by decide +kernel⟩
abbrev s_is_bound : Stmt := topS 26
abbrev n_is_bound : List Str := ["counts", "hidden", "place", "some", "less", "number", "table", "paper"]
abbrev p_is_bound : List Str := ["counts", "hidden", "place", "some", "less"]
theorem sc_is_bound : FnScope n_is_bound p_is_bound (defScope s_is_bound) := ⟨rfl, rfl, rfl, by decide +kernel, rfl, by decide +kernel, by decide +kernel⟩
abbrev s_shows_bounds : Stmt := topS 27
abbrev n_shows_bounds : List Str := ["counts", "hidden", "place", "thing"]
abbrev p_shows_bounds : List Str := ["counts", "hidden", "place", "thing"]
theorem sc_shows_bounds : FnScope n_shows_bounds p_shows_bounds (defScope s_shows_bounds) := ⟨rfl, rfl, rfl, by decide +kernel, rfl, by decide +kernel, by decide +kernel⟩
abbrev s_given_away : Stmt := topS 28
abbrev n_given_away : List Str := ["counts", "hidden", "found", "place", "told"]
abbrev p_given_away : List Str := ["counts", "hidden"]
theorem sc_given_away : FnScope n_given_away p_given_away (defScope s_given_away) := ⟨rfl, rfl, rfl, by decide +kernel, rfl, by decide +kernel, by decide +kernel⟩
abbrev s_law_pot : Stmt := topS 30
abbrev n_law_pot : List Str := ["_law_script", "_law_k", "_law_cell"]
abbrev p_law_pot : List Str := ["_law_script", "_law_k"]
theorem sc_law_pot : FnScope n_law_pot p_law_pot (defScope s_law_pot) := ⟨rfl, rfl, rfl, by decide +kernel, rfl, by decide +kernel, by decide +kernel⟩
abbrev s_law_take : Stmt := topS 31
abbrev n_law_take : List Str := ["_law_pot_here", "_law_many", "_law_one", "_law_other", "_law_found"]
abbrev p_law_take : List Str := ["_law_pot_here", "_law_many"]
theorem sc_law_take : FnScope n_law_take p_law_take (defScope s_law_take) := ⟨rfl, rfl, rfl, by decide +kernel, rfl, by decide +kernel, by decide +kernel⟩
abbrev s_law_counts : Stmt := topS 32
abbrev n_law_counts : List Str := ["_law_pot_here", "_law_way", "_law_found", "_law_row", "_law_many", "_law_wide", "_law_line", "_law_column", "_law_few"]
abbrev p_law_counts : List Str := ["_law_pot_here"]
theorem sc_law_counts : FnScope n_law_counts p_law_counts (defScope s_law_counts) := ⟨rfl, rfl, rfl, by decide +kernel, rfl, by decide +kernel, by decide +kernel⟩
abbrev s_law_hidden : Stmt := topS 33
abbrev n_law_hidden : List Str := ["_law_pot_here", "_law_counts_here", "_law_way", "_law_found", "_law_row", "_law_many", "_law_wide", "_law_column", "_law_some"]
abbrev p_law_hidden : List Str := ["_law_pot_here", "_law_counts_here"]
theorem sc_law_hidden : FnScope n_law_hidden p_law_hidden (defScope s_law_hidden) := ⟨rfl, rfl, rfl, by decide +kernel, rfl, by decide +kernel, by decide +kernel⟩
abbrev s_law_ends : Stmt := topS 34
abbrev n_law_ends : List Str := ["_law_counts_here", "_law_hidden_here", "_law_place", "_law_told"]
abbrev p_law_ends : List Str := ["_law_counts_here", "_law_hidden_here", "_law_place"]
theorem sc_law_ends : FnScope n_law_ends p_law_ends (defScope s_law_ends) := ⟨rfl, rfl, rfl, by decide +kernel, rfl, by decide +kernel, by decide +kernel⟩
abbrev s_law_others : Stmt := topS 35
abbrev n_law_others : List Str := ["_law_pot_here", "_law_counts_here", "_law_hidden_here", "_law_found", "_law_row", "_law_line", "_law_more", "_law_column", "_law_one", "_law_other"]
abbrev p_law_others : List Str := ["_law_pot_here", "_law_counts_here", "_law_hidden_here"]
theorem sc_law_others : FnScope n_law_others p_law_others (defScope s_law_others) := ⟨rfl, rfl, rfl, by decide +kernel, rfl, by decide +kernel, by decide +kernel⟩
abbrev s_law_turned_right : Stmt := topS 36
abbrev n_law_turned_right : List Str := ["_law_pot_here", "_law_counts_here", "_law_hidden_here", "_law_place", "_law_ends_here", "_law_whole", "_law_turned", "_law_across", "_law_many", "_law_by", "_law_order", "_law_moved", "_law_there", "_law_away", "_law_row", "_law_at", "_law_other", "_law_line", "_law_column"]
abbrev p_law_turned_right : List Str := ["_law_pot_here", "_law_counts_here", "_law_hidden_here", "_law_place", "_law_ends_here", "_law_whole"]
theorem sc_law_turned_right : FnScope n_law_turned_right p_law_turned_right (defScope s_law_turned_right) := ⟨rfl, rfl, rfl, by decide +kernel, rfl, by decide +kernel, by decide +kernel⟩
abbrev s_law_more_right : Stmt := topS 37
abbrev n_law_more_right : List Str := ["_law_pot_here", "_law_counts_here", "_law_hidden_here", "_law_place", "_law_ends_here", "_law_whole", "_law_shown", "_law_row", "_law_by", "_law_many", "_law_wide", "_law_least", "_law_greatest", "_law_line", "_law_column", "_law_one"]
abbrev p_law_more_right : List Str := ["_law_pot_here", "_law_counts_here", "_law_hidden_here", "_law_place", "_law_ends_here", "_law_whole"]
theorem sc_law_more_right : FnScope n_law_more_right p_law_more_right (defScope s_law_more_right) := ⟨rfl, rfl, rfl, by decide +kernel, rfl, by decide +kernel, by decide +kernel⟩
abbrev s_law : Stmt := topS 38
abbrev n_law : List Str := ["_law_script", "_law_k", "_law_pot_here", "_law_whole", "_law_cut", "_law_counts_here", "_law_hidden_here", "_law_turn", "_law_place", "_law_told", "_law_ends_here", "_law_alike", "_law_table", "_law_row", "_law_line"]
abbrev p_law : List Str := ["_law_script"]
theorem sc_law : FnScope n_law p_law (defScope s_law) := ⟨rfl, rfl, rfl, by decide +kernel, rfl, by decide +kernel, by decide +kernel⟩
/-- names of the module that are no name of its own; its constants -/
structure Tx0 (K : PySem.W.Frag) (mg : Str → Option Value) : Prop where
  len_ : mg "len" = none
  all_ : mg "all" = none
  isinstance : mg "isinstance" = none
  tuple_ : mg "tuple" = none
  int_ : mg "int" = none
  bool_ : mg "bool" = none
  list_ : mg "list" = none
  sum_ : mg "sum" = none
  zip_ : mg "zip" = none
  range_ : mg "range" = none
  min_ : mg "min" = none
  max_ : mg "max" = none
  sorted_ : mg "sorted" = none
  abs_ : mg "abs" = none
  enumerate : mg "enumerate" = none
  mle : ∃ t, mg "MOST_LINES" = some (.int 6 t)
  mce : ∃ t, mg "MOST_COUNT" = some (.int 1000000000 t)
theorem Tx0.ml {K : PySem.W.Frag} {mg : Str → Option Value} (T : Tx0 K mg) : mg "MOST_LINES" = some (.int 6 T.mle.choose) := T.mle.choose_spec
theorem Tx0.mc {K : PySem.W.Frag} {mg : Str → Option Value} (T : Tx0 K mg) : mg "MOST_COUNT" = some (.int 1000000000 T.mce.choose) := T.mce.choose_spec
section
variable {X : Cx}
theorem ck_len : CallR X (.builtin "len") (rLenS X.K) := call_len_seq
theorem ck_int : CallR X (.type "int") rInt1 := call_int1
theorem ck_tup : CallR X (.type "tuple") (rTupOf X.K) := call_tuple_of
theorem ck_list : CallR X (.type "list") (rListS X.K) := call_list_of
end
/-! ### data -/
def dRow (r : List Int) : PyData := .tuple (r.map .int)
def dTab (t : Tab) : PyData := .tuple (t.map dRow)
def dPl (p : Pl) : PyData := .tuple [.int (p.1 : Nat), .int (p.2 : Nat)]
def dHid (hs : List Pl) : PyData := .tuple (hs.map dPl)
def ndW : Nd → Str
  | .row _ => "row"
  | .col _ => "column"
def dNd (x : Nd) : PyData := .tuple [.str (ndW x), .int (x.ix : Nat)]
def dStp (x : Stp) : PyData := .tuple [.int (x.1 : Nat), .int (x.2.1 : Nat), .int x.2.2]
def dPap (a b : List Int) : PyData := .tuple [dRow a, dRow b]
def dTold (n : Int) (T1 : Tab) (a1 b1 : List Int) (m : Int) (T2 : Tab) (a2 b2 : List Int) : PyData := .tuple [.int n, dTab T1, dPap a1 b1, .int m, dTab T2, dPap a2 b2]
theorem tuO_row (r : List Int) : tuO (dRow r) = true := by
  unfold dRow tuO
  exact tuOs_map _ (fun _ => rfl) r
theorem tuO_tab (t : Tab) : tuO (dTab t) = true := by
  unfold dTab tuO
  exact tuOs_map _ tuO_row t
theorem tuO_pl (p : Pl) : tuO (dPl p) = true := rfl
theorem tuO_hid (hs : List Pl) : tuO (dHid hs) = true := by
  unfold dHid tuO
  exact tuOs_map _ tuO_pl hs
theorem tuO_nd (x : Nd) : tuO (dNd x) = true := rfl
theorem tuO_stp (x : Stp) : tuO (dStp x) = true := rfl
theorem tuO_pap (a b : List Int) : tuO (dPap a b) = true := by
  simp [dPap, tuO, tuOs, tuO_row]
theorem tuO_told (n : Int) (T1 : Tab) (a1 b1 : List Int) (m : Int) (T2 : Tab) (a2 b2 : List Int) : tuO (dTold n T1 a1 b1 m T2 a2 b2) = true := by
  simp [dTold, tuO, tuOs, tuO_tab, tuO_pap]
/-! shapes of data: canLay0, depth -/
theorem lay_ints : ∀ r : List Int, PyData.canLayAll0 (r.map .int) = true
  | [] => by simp [PyData.canLayAll0]
  | x :: r => by simp [PyData.canLayAll0, PyData.canLay0, lay_ints r]
theorem depth_ints : ∀ r : List Int, PyData.depthAll (r.map .int) ≤ 1
  | [] => by simp [PyData.depthAll]
  | x :: r => by
    have := depth_ints r
    simp only [List.map_cons, PyData.depthAll, PyData.depth]
    omega
theorem lay_map {α : Type} (f : α → PyData) (h : ∀ x, (f x).canLay0 = true) : ∀ xs : List α, PyData.canLayAll0 (xs.map f) = true
  | [] => by simp [PyData.canLayAll0]
  | x :: xs => by simp [PyData.canLayAll0, h x, lay_map f h xs]
theorem depth_map {α : Type} (f : α → PyData) (n : Nat) (h : ∀ x, (f x).depth ≤ n) : ∀ xs : List α, PyData.depthAll (xs.map f) ≤ n
  | [] => by simp [PyData.depthAll]
  | x :: xs => by
    have h1 := depth_map f n h xs
    have h2 := h x
    simp only [List.map_cons, PyData.depthAll]
    omega
theorem lay_row (r : List Int) : (dRow r).canLay0 = true := by simp [dRow, PyData.canLay0, lay_ints]
theorem depth_row (r : List Int) : (dRow r).depth ≤ 2 := by
  have := depth_ints r
  simp only [dRow, PyData.depth]
  omega
theorem lay_pl (p : Pl) : (dPl p).canLay0 = true := by simp [dPl, PyData.canLay0, PyData.canLayAll0]
theorem depth_pl (p : Pl) : (dPl p).depth ≤ 2 := by simp [dPl, PyData.depth, PyData.depthAll]
theorem lay_nd (x : Nd) : (dNd x).canLay0 = true := by cases x <;> (simp only [dNd, ndW, PyData.canLay0, PyData.canLayAll0]; decide +kernel)
theorem depth_nd (x : Nd) : (dNd x).depth ≤ 2 := by cases x <;> simp [dNd, PyData.depth, PyData.depthAll]
theorem shaped_of {d : PyData} (h1 : d.canLay0 = true) (h2 : d.depth ≤ 64) : SeqAt.shaped d = true := by
  show (d.canLay0 && decide (d.depth ≤ 64)) = true
  rw [h1, decide_eq_true h2]
  rfl
theorem shaped_pl (p : Pl) : SeqAt.shaped (dPl p) = true := shaped_of (lay_pl p) (by have := depth_pl p; omega)
theorem shaped_hid (hs : List Pl) : SeqAt.shaped (dHid hs) = true := by
  refine shaped_of (by simp [dHid, PyData.canLay0, lay_map dPl lay_pl]) ?_
  have := depth_map dPl 2 depth_pl hs
  simp only [dHid, PyData.depth]
  omega
theorem shaped_row (r : List Int) : SeqAt.shaped (dRow r) = true := shaped_of (lay_row r) (by have := depth_row r; omega)
theorem shaped_lnd (xs : List Nd) : SeqAt.shaped (.list (xs.map dNd)) = true := by
  refine shaped_of (by simp [PyData.canLay0, lay_map dNd lay_nd]) ?_
  have := depth_map dNd 2 depth_nd xs
  simp only [PyData.depth]
  omega
theorem shaped_lpl (xs : List Pl) : SeqAt.shaped (.list (xs.map dPl)) = true := by
  refine shaped_of (by simp [PyData.canLay0, lay_map dPl lay_pl]) ?_
  have := depth_map dPl 2 depth_pl xs
  simp only [PyData.depth]
  omega
theorem eqv_same {d : PyData} (h : SeqAt.shaped d = true) : PyData.eqv d d = true := SeqAt.eqv_refl d (SeqAt.canLay_of_shaped h)
theorem eqv_pl (p q : Pl) : PyData.eqv (dPl p) (dPl q) = decide (p = q) := by
  obtain ⟨a, b⟩ := p
  obtain ⟨c, d⟩ := q
  have e : PyData.eqv (dPl (a, b)) (dPl (c, d)) = (((a : Int) == (c : Int)) && (((b : Int) == (d : Int)) && true)) := by simp only [dPl, PyData.eqv, PyData.eqvAll]
  rw [e]
  by_cases h1 : a = c
  · by_cases h2 : b = d
    · subst h1 h2
      simp
    · have q : ((b : Int) == (d : Int)) = false := beq_eq_false_iff_ne.mpr (by omega)
      rw [q, Bool.false_and, Bool.and_false, decide_eq_false]
      intro z
      exact h2 (congrArg Prod.snd z)
  · have q : ((a : Int) == (c : Int)) = false := beq_eq_false_iff_ne.mpr (by omega)
    rw [q, Bool.false_and, decide_eq_false]
    intro z
    exact h1 (congrArg Prod.fst z)
theorem any_pl (p : Pl) : ∀ hs : List Pl, ((hs.map dPl).any (PyData.eqv · (dPl p))) = decide (p ∈ hs)
  | [] => by simp
  | h :: hs => by
    rw [List.map_cons, List.any_cons, any_pl p hs, eqv_pl]
    by_cases e : h = p
    · subst e; simp
    · have e2 : ¬ p = h := fun z => e z.symm
      rw [decide_eq_false e, Bool.false_or]
      simp [e2]
theorem eqv_emptyL : ∀ ds : List PyData, PyData.eqv (.list ds) (.list []) = decide (ds = [])
  | [] => by simp [PyData.eqv, PyData.eqvAll]
  | d :: ds => by simp [PyData.eqv, PyData.eqvAll]
theorem eqv_emptyT : ∀ ds : List PyData, PyData.eqv (.tuple ds) (.tuple []) = decide (ds = [])
  | [] => by simp [PyData.eqv, PyData.eqvAll]
  | d :: ds => by simp [PyData.eqv, PyData.eqvAll]
/-! ### counts and places that may be handed in -/
def wd (C : Tab) : Nat := (C.getD 0 []).length
structure VC (C : Tab) : Prop where
  l1 : 1 ≤ C.length
  l6 : C.length ≤ 6
  w1 : 1 ≤ wd C
  w6 : wd C ≤ 6
  rect : ∀ r ∈ C, r.length = wd C
  nn : ∀ r ∈ C, ∀ x ∈ r, 0 ≤ x
  top : ∀ r ∈ C, ∀ x ∈ r, x ≤ 1000000000
def plLt (p q : Pl) : Prop := p.1 < q.1 ∨ (p.1 = q.1 ∧ p.2 < q.2)
structure VH (C : Tab) (hs : List Pl) : Prop where
  inr : ∀ h ∈ hs, h.1 < C.length ∧ h.2 < wd C
  rise : hs.Pairwise plLt
theorem VH.nd {C : Tab} {hs : List Pl} (v : VH C hs) : hs.Nodup := by
  refine List.Pairwise.imp ?_ v.rise
  intro a b h e
  subst e
  unfold plLt at h
  omega
theorem getD_mem {α : Type} {l : List α} {i : Nat} (h : i < l.length) (d : α) : l.getD i d ∈ l := by
  rw [List.getD_eq_getElem?_getD, List.getElem?_eq_getElem h]
  exact List.getElem_mem h
theorem VC.row {C : Tab} (v : VC C) {i : Nat} (h : i < C.length) : (C.getD i []).length = wd C := v.rect _ (getD_mem h _)
theorem VC.inT {C : Tab} (v : VC C) {p : Pl} (h1 : p.1 < C.length) (h2 : p.2 < wd C) : inT C p := ⟨h1, by rw [v.row h1]; exact h2⟩
theorem VC.tat_nn {C : Tab} (v : VC C) (q : Pl) : 0 ≤ tat C q := by
  by_cases h : Ak.inT C q
  · exact v.nn _ (getD_mem h.1 _) _ (getD_mem h.2 _)
  · rw [tat_out h]
    exact Int.le_refl _
theorem VH.inT {C : Tab} {hs : List Pl} (v : VC C) (vh : VH C hs) : ∀ h ∈ hs, Ak.inT C h := fun h hh => v.inT (vh.inr h hh).1 (vh.inr h hh).2
end Ak
set_option Elab.async false
set_option linter.all false
set_option maxRecDepth 100000
set_option maxHeartbeats 4000000
/-! AkK: the rules with the written part told by name (so they stand under a comprehension's binders). -/
namespace Ak
open PySem PySem.Spec PyProof.Rows L2 Evl
section
variable {X : Cx} (K : PySem.W.Frag) (hK : X.K = K)
include hK
theorem op_eqDK (hu : X.A.units + 64 < cLine) : OpR X (compareOp .Eq) (rEqD K) := by subst hK; exact op_eqD hu
theorem op_neDK (hu : X.A.units + 64 < cLine) : OpR X (compareOp .NotEq) (rNeD K) := by subst hK; exact op_neD hu
theorem op_ltTK (hu : X.A.units < cLine) : OpR X (compareOp .Lt) (rLtT K) := by subst hK; exact op_ltT hu
theorem op_inTDK (hu : X.A.units + 64 < cLine) : OpR X (compareOp .In) (rInTD K false) := by subst hK; exact op_inTD hu
theorem op_notInTDK (hu : X.A.units + 64 < cLine) : OpR X (compareOp .NotIn) (rInTD K true) := by subst hK; exact op_notInTD hu
theorem op_in_seqK : OpR X (compareOp .In) (rIn K false) := by subst hK; exact op_in_seq
theorem op_catAK : OpR X (binaryOp .Add) (rCatA K) := by subst hK; exact op_catA
theorem op_repAK : OpR X (binaryOp .Mult) (rRepA K) := by subst hK; exact op_repA
theorem ix_tupK : IxR X (rIxT K) := by subst hK; exact ix_tup
theorem ix_listK : IxR X (rIxL K) := by subst hK; exact ix_list
theorem sl_tupK : SlR X (rSlA K) := by subst hK; exact sl_tupA
theorem ck_lenK : CallR X (.builtin "len") (rLenS K) := by subst hK; exact ck_len
theorem ck_tupK : CallR X (.type "tuple") (rTupOf K) := by subst hK; exact ck_tup
theorem ck_listK : CallR X (.type "list") (rListS K) := by subst hK; exact ck_list
theorem ck_sumK (hc : X.calm = true) : CallR X (.builtin "sum") (rSum K) := by subst hK; exact cr_sum hc
theorem ck_allK (hc : X.calm = true) : CallR X (.builtin "all") (rAll K) := by subst hK; exact cr_all hc
theorem ck_minK (hc : X.calm = true) : CallR X (.builtin "min") (rMin K) := by subst hK; exact cr_min hc
theorem ck_maxK (hc : X.calm = true) : CallR X (.builtin "max") (rMax K) := by subst hK; exact cr_max hc
theorem ck_maxTK (hc : X.calm = true) : CallR X (.builtin "max") (rMaxT K) := by subst hK; exact cr_maxT hc
theorem ck_sortLK : CallR X (.builtin "sorted") (rSortedPO K) := by subst hK; exact cr_sortedPO
theorem ck_sortTK : CallR X (.builtin "sorted") (rSortedPT K) := by subst hK; exact cr_sortedPT
theorem ck_isiK : CallR X (.builtin "isinstance") (rIsi K) := by subst hK; exact call_isi
theorem get_listK : PGet X (rGetL K) := by subst hK; exact get_list
theorem mt_indexK : MtR X "list.index" (rIndex K) := by subst hK; exact mt_index
theorem pi_tupK {l tg : Expr} {tl : TE} (hl : PE X l tl) : PI X tg l (iTup K tl) := by subst hK; exact pi_tup hl
theorem pi_listK {l tg : Expr} {tl : TE} (hl : PE X l tl) : PI X tg l (iList K tl) := by subst hK; exact pi_list hl
theorem pi_zipK {e e2 : Expr} {ta : TA} {p pos tpos : Pos} {elts : List Expr} {kk : Nat} (hg : Gl X "zip") (hm : X.mg "zip" = none) (ha : PA X [e, e2] ta)
    (hs : starEach [e, e2] X.env = (false, eval e X.env) :: starEach [e2] X.env := by rfl) (hpl : (backTo pos (starEach [e2] X.env)).any (·.1) = false := by rfl) :
    PI X (.Tuple elts kk tpos) (.Call (.Name "zip" p) [e, e2] [] pos) (RZ.iZipA K ta) := by subst hK; exact RZ.pi_zipA hg hm ha hs hpl
theorem pe_revLK {e : Expr} {te : TE} {k : Nat} {p1 p2 p3 pos : Pos} (he : PE X e te) : PE X (.Subscript e (.Slice none none (some (.UnaryOp .USub (.Constant (.int 1) k p1) p2)) p3) pos) (tRevL K te) := by subst hK; exact pe_revL he
theorem pe_revPK {e : Expr} {te : TE} {k : Nat} {p1 p2 p3 pos : Pos} (he : PE X e te) : PE X (.Subscript e (.Slice none none (some (.UnaryOp .USub (.Constant (.int 1) k p1) p2)) p3) pos) (tRevP K te) := by subst hK; exact pe_revP he
theorem pg_tupK {es : List Expr} {k : Nat} {pos : Pos} {t : TGs} {n : Nat} (hc : X.calm = true) (h : PGs X es t)
    (hn : (assignEach es X.env).length = n := by rfl) (hst : (assignEach es X.env).findIdx? (·.1) = none := by rfl) : PG X (.Tuple es k pos) (gTup K n t) := by subst hK; exact pg_tup hc h hn hst
theorem pe_bmK {T name id : String} {r : V → List V → Hp → VK → Prop} {o e : Expr} {es : List Expr} {to : TE} {t : TA} {apos cpos : Pos} (pa : PlainAttrs T) (slot : Slot T name id) (hty : typeOf (.builtin id) = pure (.type "method_descriptor")) (hm : MtR X id r) (ho : PE X o to) (ha : PA X (e :: es) t)
    (hbase : attributeBase o name X.env (eval o X.env) = eval o X.env := by rfl)
    (hfew : ((backTo cpos (starEach (e :: es) X.env)).all (fun x => !x.1) && (backToKw cpos (keywordEach [] X.env)).all (fun x => x.1.isSome)
      && decide ((e :: es).length + ([] : List Keyword).length + (if ([] : List Keyword).isEmpty then 0 else 1) < 30)) = true := by rfl)
    (hline : (apos.endLine == cpos.line) = true := by rfl) (hs : starEach (e :: es) X.env = (false, eval e X.env) :: starEach es X.env := by rfl) (hplain : (backTo cpos (starEach es X.env)).any (·.1) = false := by rfl) :
    PE X (.Call (.Attribute o name apos) (e :: es) [] cpos) (tBM K T r to t) := by subst hK; exact pe_bm pa slot hty hm ho ha hbase hfew hline hs hplain
end
end Ak
set_option Elab.async false
set_option linter.all false
set_option maxRecDepth 100000
set_option maxHeartbeats 4000000
/-! AkS: loops as statements. -/
namespace Ak
open PySem PySem.Spec PyProof.Rows L2 Evl
theorem sl_begin {K : PySem.W.Frag} {H : Hp} {vs : List V} {ds : List PyData} (h : DqAll K H vs ds) (N : List Str) : Sl K H (start N vs) (ds.map .d ++ noEn (N.length - ds.length)) := by
  rw [← dps_len h]
  exact sl_start h _
/-- J gives, from H1 on and while its tuples stay, the data ds in order -/
structure Wx (K : PySem.W.Frag) (J : It) (H1 : Hp) (ds : List PyData) : Prop where
  go : ∀ (i : Nat) H, i < ds.length → Tx K H1 H → J.go i H
  stop : ∀ H, Tx K H1 H → J.stop ds.length H
  yld : ∀ (i : Nat) H x H', Tx K H1 H → J.yld i H x H' → ∀ d, ds[i]? = some d → Ex H H' ∧ Dq K H' x d
def Jh (K : PySem.W.Frag) (H0 : Hp) (Γ : Env1) (wi : TI) (ds : List PyData) : Prop := ∀ (σ : Sg) (H : Hp), Ex H0 H → Sl K H σ Γ → ∀ R : It → Hp → Prop, (∀ J H1, Ex H H1 → Wx K J H1 ds → R J H1) → wi σ H R
theorem Wx.wd {K : PySem.W.Frag} {J : It} {H1 : Hp} {ds : List PyData} (w : Wx K J H1 ds) : Wd K J H1 ds := ⟨fun i H h e => w.go i H h (Tx.of e), fun H e => w.stop H (Tx.of e), fun i H x H' e => w.yld i H x H' (Tx.of e)⟩
theorem Jh.ih {K : PySem.W.Frag} {H0 : Hp} {Γ : Env1} {wi : TI} {ds : List PyData} (h : Jh K H0 Γ wi ds) : Ih K H0 Γ wi ds := fun σ H e0 s R q => h σ H e0 s R fun J H1 e1 w => q J H1 e1 w.wd
section
variable {K : PySem.W.Frag} {H0 : Hp} {Γ : Env1} {tl : TE} {ds : List PyData}
theorem wx_tup {a : Addr} {xs : List V} {H1 : Hp} (hu : tuOs ds = true) (h : H1 a = some (.tup xs)) (hd : DqAll K H1 xs ds) : Wx K (Itt K a) H1 ds := by
  have ln := dps_len hd
  refine ⟨fun i H hi e => ?_, fun H e => ?_, fun i H x H' e y d hd' => ?_⟩
  · exact ⟨xs, xs[i]'(by omega), SqT.of (e _ _ h), by simp [ln ▸ hi]⟩
  · exact ⟨xs, SqT.of (e _ _ h), by omega⟩
  · obtain ⟨z, y⟩ := y
    subst z
    obtain ⟨v, h1, h2⟩ := dps_get (dps_tx e _ _ hu hd) hd'
    have h3 : xs[i]? = some x := y xs (SqT.of (e _ _ h))
    rw [h1] at h3
    cases h3
    exact ⟨Ex.refl _, h2⟩
theorem j_tup (h : Eh K H0 Γ tl (.tuple ds)) (hu : tuOs ds = true) : Jh K H0 Γ (iTup K tl) ds := fun σ H e0 s R q => h σ H e0 s _ fun v H1 e1 h1 => by
  obtain ⟨p, xs, rfl, h3, h4⟩ := dp_tup h1
  exact ⟨p, rfl, ⟨xs, SqT.of h3⟩, q _ H1 e1 (wx_tup hu h3 h4)⟩
theorem j_range {n : Nat} {ta : TE} (h : Eh K H0 Γ ta (.int (n : Nat))) (hn : n ≤ 100000) : Jh K H0 Γ (iRng1 (tCons ta tNil)) (dNs n) := fun σ H e0 s R q => h σ H e0 s _ fun v H1 e1 h1 => by
  cases dp_int h1
  refine ⟨_, rfl, by omega, by omega, q _ H1 e1 ⟨fun i H hi _ => ?_, fun H _ => ?_, fun i H x H' _ y d hd' => ?_⟩⟩
  · have ln : (dNs n).length = n := by simp [dNs]
    rw [ln] at hi
    exact hi
  · have ln : (dNs n).length = n := by simp [dNs]
    rw [ln]
    exact Nat.le_refl _
  · exact wd_range.yld i H x H' (Ex.refl H) y d hd'
/-- pairs of an index and an item -/
def dEnum (ds : List PyData) : List PyData := ds.zipIdx.map fun p => .tuple [.int (p.2 : Nat), p.1]
theorem dEnum_get {i : Nat} {d : PyData} (h : (dEnum ds)[i]? = some d) : ∃ x, ds[i]? = some x ∧ d = .tuple [.int (i : Nat), x] := by
  unfold dEnum at h
  rw [List.getElem?_map, List.getElem?_zipIdx] at h
  cases hx : ds[i]? with
  | none => rw [hx] at h; simp at h
  | some x =>
    rw [hx] at h
    refine ⟨x, rfl, ?_⟩
    simpa using h.symm
theorem j_enumT (h : Eh K H0 Γ tl (.tuple ds)) (hu : tuOs ds = true) : Jh K H0 Γ (iEnumT (tCons tl tNil)) (dEnum ds) := fun σ H e0 s R q => h σ H e0 s _ fun v H1 e1 h1 => by
  obtain ⟨p, xs, rfl, h3, h4⟩ := dp_tup h1
  have ln := dps_len h4
  have le : (dEnum ds).length = ds.length := by simp [dEnum]
  refine ⟨p, xs, rfl, h3, q _ H1 e1 ⟨fun i H hi e => ⟨by omega, e _ _ h3⟩, fun H e => ⟨by omega, e _ _ h3⟩, fun i H x H' e y d hd' => ?_⟩⟩
  obtain ⟨T, y1, y2, rfl, hT, rfl, f1, f2⟩ := y
  obtain ⟨z, g1, rfl⟩ := dEnum_get hd'
  obtain ⟨v, g2, g3⟩ := dps_get (dps_tx e _ _ hu h4) g1
  have f2' : xs[i]? = some y2 := f2
  rw [g2] at f2'
  cases f2'
  have f1' : some (V.int (i : Nat)) = some y1 := f1
  cases f1'
  exact ⟨Ex.new hT, .tup upd_same (.cons (.int _) (.cons (dp_ex (Ex.new hT) _ _ g3) .nil))⟩
/-- pairs of items -/
def dZip (ds es : List PyData) : List PyData := (ds.zip es).map fun p => .tuple [p.1, p.2]
theorem dZip_get {es : List PyData} {i : Nat} {d : PyData} (h : (dZip ds es)[i]? = some d) : ∃ x y, ds[i]? = some x ∧ es[i]? = some y ∧ d = .tuple [x, y] := by
  unfold dZip at h
  rw [List.getElem?_map] at h
  cases hz : (ds.zip es)[i]? with
  | none => rw [hz] at h; cases h
  | some p =>
    rw [hz] at h
    obtain ⟨h1, h2⟩ := List.getElem?_zip_eq_some.mp hz
    exact ⟨p.1, p.2, h1, h2, (Option.some.inj h).symm⟩
theorem j_zipT {es : List PyData} {tl2 : TE} (h : Eh K H0 Γ tl (.tuple ds)) (h2 : Eh K H0 Γ tl2 (.tuple es)) (hu : tuOs ds = true) (hu2 : tuOs es = true) : Jh K H0 Γ (RZ.iZipA K (tCons tl (tCons tl2 tNil))) (dZip ds es) := fun σ H e0 s R q =>
  bin2 h h2 e0 s fun v w H2 e2 d1 d2 => by
    obtain ⟨p, xs, rfl, h3, h4⟩ := dp_tup d1
    obtain ⟨p', ys, rfl, h3', h4'⟩ := dp_tup d2
    have ln := dps_len h4
    have ln' := dps_len h4'
    have le : (dZip ds es).length = min ds.length es.length := by simp [dZip]
    refine ⟨p, p', xs, ys, rfl, .inr ⟨SqT.of h3, SqT.of h3', q _ H2 e2 ⟨fun i H hi e => ?_, fun H e => ?_, fun i H x H' e y d hd' => ?_⟩⟩⟩
    · exact ⟨xs, ys, xs[i]'(by omega), ys[i]'(by omega), SqT.of (e _ _ h3), SqT.of (e _ _ h3'), List.getElem?_eq_getElem _, List.getElem?_eq_getElem _⟩
    · exact ⟨xs, ys, SqT.of (e _ _ h3), SqT.of (e _ _ h3'), by omega⟩
    · obtain ⟨T, y1, y2, rfl, hT, rfl, f1, f2⟩ := y
      obtain ⟨z, z', g1, g1', rfl⟩ := dZip_get hd'
      obtain ⟨v, g2, g3⟩ := dps_get (dps_tx e _ _ hu h4) g1
      obtain ⟨v', g2', g3'⟩ := dps_get (dps_tx e _ _ hu2 h4') g1'
      have f1' := f1 xs (SqT.of (e _ _ h3))
      have f2' := f2 ys (SqT.of (e _ _ h3'))
      rw [g2] at f1'
      cases f1'
      rw [g2'] at f2'
      cases f2'
      exact ⟨Ex.new hT, .tup upd_same (.cons (dp_ex (Ex.new hT) _ _ g3) (.cons (dp_ex (Ex.new hT) _ _ g3') .nil))⟩
/-- a tuple and a list of one length -/
theorem i_zipM {es : List PyData} {tl2 : TE} (h : Eh K H0 Γ tl (.tuple ds)) (h2 : Eh K H0 Γ tl2 (.list es)) (hl : ds.length = es.length) : Ih K H0 Γ (iZipM (tCons tl (tCons tl2 tNil))) (dZip ds es) := fun σ H e0 s R q =>
  bin2 h h2 e0 s fun v w H2 e2 d1 d2 => by
    obtain ⟨p, xs, rfl, h3, h4⟩ := dp_tup d1
    obtain ⟨p', ys, rfl, h3', h4'⟩ := dp_lst d2
    have ln := dps_len h4
    have ln' := dps_len h4'
    have le : (dZip ds es).length = min ds.length es.length := by simp [dZip]
    refine ⟨p, p', xs, ys, xs.length, rfl, h3, h3', rfl, by omega, q _ H2 e2 ⟨fun i H hi e => ?_, fun H e => ?_, fun i H x H' e y d hd' => ?_⟩⟩
    · exact ⟨by omega, e _ _ h3, e _ _ h3'⟩
    · exact ⟨by omega, e _ _ h3, e _ _ h3'⟩
    · obtain ⟨T, y1, y2, rfl, hT, rfl, f1, f2⟩ := y
      obtain ⟨z, z', g1, g1', rfl⟩ := dZip_get hd'
      obtain ⟨v, g2, g3⟩ := dps_get (dps_ex e _ _ h4) g1
      obtain ⟨v', g2', g3'⟩ := dps_get (dps_ex e _ _ h4') g1'
      have f1' : xs[i]? = some y1 := f1
      have f2' : ys[i]? = some y2 := f2
      rw [g2] at f1'
      cases f1'
      rw [g2'] at f2'
      cases f2'
      exact ⟨Ex.new hT, .tup upd_same (.cons (dp_ex (Ex.new hT) _ _ g3) (.cons (dp_ex (Ex.new hT) _ _ g3') .nil))⟩
end
section
variable {K : PySem.W.Frag} {H0 H : Hp} {Γ : Env1} {σ : Sg} {wi : TI} {g : TG} {tb tz : TS} {D : Ends} {ds : List PyData}
/-- a for: what holds between its turns is told once its walked thing is there -/
theorem s_for (h : Jh K H0 Γ wi ds) (e0 : Ex H0 H) (s : Sl K H σ Γ)
    (k : ∀ H1, Ex H H1 → Sl K H1 σ Γ → ∃ Iv : Nat → Sg → Hp → Prop, Iv 0 σ H1 ∧ (∀ i σ' H', Iv i σ' H' → Tx K H1 H') ∧
      (∀ i d v σ' H2 H3, ds[i]? = some d → Iv i σ' H2 → Ex H2 H3 → Dq K H3 v d → g v σ' H3 fun σ2 H4 => tb { D with nx := Iv (i + 1), ct := Iv (i + 1), bk := tz D } σ2 H4) ∧ ∀ σ' H', Iv ds.length σ' H' → tz D σ' H') : tSeq (tFor wi g tb) tz D σ H :=
  h σ H e0 s _ fun J H1 e1 W => by
    obtain ⟨Iv, h0, htx, hs, hd⟩ := k H1 e1 (s.ex e1)
    refine ⟨fun i m σ' H' => m = ds.length - i ∧ i ≤ ds.length ∧ Iv i σ' H', ⟨ds.length, by simp, Nat.zero_le _, h0⟩, ?_⟩
    rintro i m σ' H' ⟨rfl, hi, p⟩
    have q := htx i σ' H' p
    by_cases hlt : i < ds.length
    · refine .inr ⟨W.go i H' hlt q, Iv (i + 1), fun σ2 H2 p' => ⟨ds.length - (i + 1), by omega, rfl, hlt, p'⟩, fun x H2 y => ?_⟩
      obtain ⟨e2, hx⟩ := W.yld i H' x H2 q y _ (List.getElem?_eq_getElem hlt)
      exact hs i _ x σ' H' H2 (List.getElem?_eq_getElem hlt) p e2 hx
    · have e : i = ds.length := by omega
      subst e
      exact .inl ⟨W.stop H' q, hd σ' H' p⟩
/-- .. the last statement of its block -/
theorem s_forE (h : Jh K H0 Γ wi ds) (e0 : Ex H0 H) (s : Sl K H σ Γ)
    (k : ∀ H1, Ex H H1 → Sl K H1 σ Γ → ∃ Iv : Nat → Sg → Hp → Prop, Iv 0 σ H1 ∧ (∀ i σ' H', Iv i σ' H' → Tx K H1 H') ∧
      (∀ i d v σ' H2 H3, ds[i]? = some d → Iv i σ' H2 → Ex H2 H3 → Dq K H3 v d → g v σ' H3 fun σ2 H4 => tb { D with nx := Iv (i + 1), ct := Iv (i + 1), bk := D.nx } σ2 H4) ∧ ∀ σ' H', Iv ds.length σ' H' → D.nx σ' H') : tFor wi g tb D σ H :=
  s_for (D := D) (tz := tNext) h e0 s k
/-- a for that changes nothing: its variable's slot is forgotten; Γ' : the environment between the turns -/
theorem s_forP {Γ1 : Env1} {js : List Nat} (h : Jh K H0 Γ wi ds) (e0 : Ex H0 H) (s : Sl K H σ Γ) (Γ2 : PyData → Env1) (hw : Γ1.length = Γ.length ∧ ∀ (i : Nat) (e : En), Γ1[i]? = some e → Γ[i]? = some e ∨ e = .no)
    (hg : ∀ d ∈ ds, Tg K g d Γ1 (Γ2 d) js)
    (hs : ∀ d ∈ ds, ∀ (D' : Ends) σ' H', Ex H H' → Sl K H' σ' (Γ2 d) → (∀ σ2 H2, Ex H' H2 → Sl K H2 σ2 Γ1 → D'.nx σ2 H2) → D'.rt = D.rt → tb D' σ' H') (k : ∀ σ' H', Ex H H' → Sl K H' σ' Γ1 → tz D σ' H') : tSeq (tFor wi g tb) tz D σ H :=
  s_for h e0 s fun H1 e1 s1 => ⟨fun _ σ' H' => Ex H1 H' ∧ Sl K H' σ' Γ1, ⟨Ex.refl _, s1.weak hw.1 hw.2⟩, fun _ _ _ p => Tx.of p.1, fun i d v σ' H2 H3 hi p e2 hv => by
    have m := List.mem_of_getElem? hi
    refine hg d m v σ' H3 _ hv (p.2.ex e2) fun σ2 s2 _ => ?_
    exact hs d m _ σ2 H3 ((e1.trans p.1).trans e2) s2 (fun σ3 H4 e4 s4 => ⟨(p.1.trans e2).trans e4, s4⟩) rfl, fun σ' H' p => k σ' H' (e1.trans p.1) p.2⟩
end
end Ak
set_option Elab.async false
set_option linter.all false
set_option maxRecDepth 100000
set_option maxHeartbeats 4000000
/-! AkF1: whole numbers, counts, places. -/
namespace Ak
open PySem PySem.Spec PyProof.Rows L2 Evl
def spWhole : PySem.W.Frag → Sp := spF (fun i : Int => [.int i]) (fun _ => True) (fun _ d => d = .bool true)
def spWithin : PySem.W.Frag → Sp := spF (fun a : Int × Int × Int => [.int a.1, .int a.2.1, .int a.2.2]) (fun _ => True) (fun a d => d = .bool (decide (a.2.1 ≤ a.1) && decide (a.1 ≤ a.2.2)))
section
variable {P : Program} {w : World} {K : PySem.W.Frag} {mg : Str → Option Value} {base : Heap} {H0 : Hp} {Γ : Env1} {ta tb te : TE} {d : PyData}
theorem ty_ev {n : String} (H : Hp) (σ : Sg) (Q : VK) (h : Q (V.ty n) H) : tC (V.ty n) σ H Q := h
theorem e_isInt {i : Int} (ha : Eh K H0 Γ ta (.int i)) : Eh K H0 Γ (tCB (rIsi K) (tCons ta (tCons (tC (V.ty "int")) tNil))) (.bool true) := e_isi ha ty_ev (.inr (.inl ⟨i, rfl⟩)) (kit_ty (a := "int") (by decide +kernel))
theorem e_isBoolI {i : Int} (ha : Eh K H0 Γ ta (.int i)) : Eh K H0 Γ (tCB (rIsi K) (tCons ta (tCons (tC (V.ty "bool")) tNil))) (.bool false) := e_isi ha ty_ev (.inr (.inl ⟨i, rfl⟩)) (kit_ty (a := "int") (by decide +kernel))
theorem e_isTup {ds : List PyData} (ha : Eh K H0 Γ ta (.tuple ds)) : Eh K H0 Γ (tCB (rIsi K) (tCons ta (tCons (tC (V.ty "tuple")) tNil))) (.bool true) := e_isi ha ty_ev (.inr (.inr ⟨ds, rfl⟩)) (kit_ty (a := "tuple") (by decide +kernel))
theorem ok_is_whole (F : Fn K mg "is_whole" s_is_whole p_is_whole) (T : Tx0 K mg) : Ca P w K mg base "is_whole" 1 p_is_whole (spWhole K) := by
  refine F.ca sc_is_whole (spF_len (n := 1) fun _ => rfl) (fun f cdv A outer s H vs Q E hr h => ?_)
  obtain ⟨i, hv, _, k⟩ := h
  have nd := sc_is_whole.nd
  refine ⟨_, (pss_one (ps_ret (pe_and (pe_callB (ck_isiK K rfl) (by rfl) T.isinstance (by decide +kernel) (pa_cons (pv 0) (pa_cons (pe_bltn (v := .ty "int") (by rfl) T.int_ (by decide +kernel) rfl) pa_nil))) (pe_one (pe_not (pe_callB (ck_isiK K rfl) (by rfl) T.isinstance (by decide +kernel) (pa_cons (pv 0) (pa_cons (pe_bltn (v := .ty "bool") (by rfl) T.bool_ (by decide +kernel) rfl) pa_nil)))))))), ?_⟩
  have S := sl_begin hv n_is_whole
  exact s_ret (e_and (e_isInt (e_var rfl)) fun _ => e_not (e_isBoolI (e_var rfl))) (Ex.refl H) S fun v H1 e1 d1 => k v _ H1 e1 d1 rfl
theorem ok_is_within (F : Fn K mg "is_within" s_is_within p_is_within) (T : Tx0 K mg) (c_is_whole : Ca P w K mg base "is_whole" 1 p_is_whole (spWhole K)) : Ca P w K mg base "is_within" 2 p_is_within (spWithin K) := by
  refine F.ca sc_is_within (spF_len (n := 3) fun _ => rfl) (fun f cdv A outer s H vs Q E hr h => ?_)
  obtain ⟨⟨i, lo, hi⟩, hv, _, k⟩ := h
  have nd := sc_is_within.nd
  refine ⟨_, (pss_one (ps_ret (pe_and (pe_ca c_is_whole hr (by decide) (by rfl) (pa_cons (pv 0) pa_nil)) (pe_one (pe_chain op_le op_le (pv 1) (pv 0) (pv 2)))))), ?_⟩
  have S := sl_begin hv n_is_within
  exact s_ret (e_and (e_call i (a_cons (e_var rfl) a_nil) trivial fun _ p => p) fun _ => e_chain (e_var rfl) (e_var rfl) (e_var rfl)) (Ex.refl H) S fun v H1 e1 d1 => k v _ H1 e1 d1 rfl

def spCounts : PySem.W.Frag → Sp := spF (fun C : Tab => [dTab C]) (fun C => VC C) (fun _ d => d = .bool true)
def spPlace : PySem.W.Frag → Sp := spF (fun a : Tab × Pl => [dTab a.1, dPl a.2]) (fun a => VC a.1 ∧ a.2.1 < a.1.length ∧ a.2.2 < wd a.1) (fun _ d => d = .bool true)
def spPlaces : PySem.W.Frag → Sp := spF (fun a : Tab × List Pl => [dTab a.1, dHid a.2]) (fun a => VC a.1 ∧ VH a.1 a.2) (fun _ d => d = .bool true)
def spNeedH : PySem.W.Frag → Sp := spF (fun a : Tab × List Pl => [dTab a.1, dHid a.2]) (fun a => VC a.1 ∧ VH a.1 a.2) (fun _ d => d = .none)
def spNeedP : PySem.W.Frag → Sp := spF (fun a : Tab × List Pl × Pl => [dTab a.1, dHid a.2.1, dPl a.2.2]) (fun a => VC a.1 ∧ VH a.1 a.2.1 ∧ a.2.2 ∈ a.2.1) (fun _ d => d = .none)
theorem exN {H : Hp} : Ex (fun _ => none) H := fun _ _ z => nomatch z
theorem len16 {n : Nat} (h1 : 1 ≤ n) (h6 : n ≤ 6) : (decide ((1 : Int) ≤ (n : Int)) && decide ((n : Int) ≤ 6)) = true := by
  rw [decide_eq_true (by omega), decide_eq_true (by omega)]
  rfl
theorem s_ifLF {σ : Sg} {H : Hp} {tt : TT} {tu : TS} {D : Ends} (h : Bh K H0 Γ tt false) (e0 : Ex H0 H) (s : Sl K H σ Γ) (k : ∀ H1, Ex H H1 → Sl K H1 σ Γ → D.nx σ H1) : tIfS tt tu tNext D σ H :=
  s_ifL h e0 s (fun z => nomatch z) fun _ H1 e1 s1 => k H1 e1 s1
theorem C0_row {C : Tab} (v : VC C) : atI (C.map dRow) ((0 : Nat) : Int) = some (dRow (C.getD 0 [])) := atI_nat (by
  rw [List.getElem?_map, List.getD_eq_getElem?_getD, List.getElem?_eq_getElem (show 0 < C.length from v.l1)]
  rfl)
theorem ok_are_counts (F : Fn K mg "are_counts" s_are_counts p_are_counts) (T : Tx0 K mg) (c_is_within : Ca P w K mg base "is_within" 2 p_is_within (spWithin K)) : Ca P w K mg base "are_counts" 3 p_are_counts (spCounts K) := by
  refine F.ca sc_are_counts (spF_len (n := 1) fun _ => rfl) (fun f cdv A outer s H vs Q E hr h => ?_)
  obtain ⟨C, hv, hC, k⟩ := h
  have nd := sc_are_counts.nd
  refine ⟨_, (pss_cons (ps_if (PW.pt (pw_or (pt_not (pt_val (pe_callB (ck_isiK K rfl) (by rfl) T.isinstance (by decide +kernel) (pa_cons (pv 0) (pa_cons (pe_bltn (v := .ty "tuple") (by rfl) T.tuple_ (by decide +kernel) rfl) pa_nil))))) (pw_or1 (pt_not (pt_chain op_le op_le pe_int (pe_callB (ck_lenK K rfl) (by rfl) T.len_ PySem.boot_len (pa_cons (pv 0) pa_nil)) (pe_glob (v := .int 6) rfl T.ml ⟨_, rfl⟩)))))) (pss_one (ps_ret pe_bl)) pss_nil)
    (pss_cons (ps_for PassesOwn.never rfl (pi_tupK K rfl (pv 0)) (pg_name (i := 1) nd rfl (Or.inl rfl)) (pss_cons (ps_if (PW.pt (pw_or (pt_not (pt_val (pe_callB (ck_isiK K rfl) (by rfl) T.isinstance (by decide +kernel) (pa_cons (pv 1) (pa_cons (pe_bltn (v := .ty "tuple") (by rfl) T.tuple_ (by decide +kernel) rfl) pa_nil))))) (pw_or (pt_not (pt_chain op_le op_le pe_int (pe_callB (ck_lenK K rfl) (by rfl) T.len_ PySem.boot_len (pa_cons (pv 1) pa_nil)) (pe_glob (v := .int 6) rfl T.ml ⟨_, rfl⟩))) (pw_or1 (pt_cmpR op_ne (pe_callB (ck_lenK K rfl) (by rfl) T.len_ PySem.boot_len (pa_cons (pv 1) pa_nil)) (pe_callB (ck_lenK K rfl) (by rfl) T.len_ PySem.boot_len (pa_cons (pe_ix (ix_tupK K rfl) (pv 0) pe_int (fun _ _ => rfl)) pa_nil)) (nomark _)))))) (pss_one (ps_ret pe_bl)) pss_nil)
    (pss_one (ps_if (pt_not (pt_val (pe_callB (ck_allK K rfl rfl) (by rfl) T.all_ (by decide +kernel) (pa_cons (pe_lc (own := [("one", 2)]) rfl nd (pi_tupK K rfl (pv 1)) (blkOk_by (N := n_are_counts) (sc := defScope s_are_counts) (by decide +kernel)) (fun _ _ _ _ _ => (pg_name (i := 2) nd rfl (Or.inl rfl))) (fun _ _ _ _ _ => pts_nil) (fun _ _ _ _ _ => (pe_ca c_is_within hr (by decide) (by rfl) (pa_cons (pv 2) (pa_cons pe_int (pa_cons (pe_glob (v := .int 1000000000) rfl T.mc ⟨_, rfl⟩) pa_nil)))))) pa_nil)))) (pss_one (ps_ret pe_bl)) pss_nil))))
    (pss_one (ps_ret pe_bl)))), ?_⟩
  have S : Sl K H _ [.d (dTab C), .no, .no] := sl_begin hv n_are_counts
  refine s_ifF (H0 := fun _ => none) ((b_or (b_not (b_B (e_isTup (e_var rfl)))) fun _ => b_not (b_test (e_chain e_int (e_lenT (e_var rfl)) e_int))).to ?_) exN S fun H1 e1 S1 => ?_
  · rw [List.length_map, len16 hC.l1 hC.l6]
    rfl
  refine s_forP (H0 := fun _ => none) (Γ1 := [.d (dTab C), .no, .no]) (js := [1]) (j_tup (e_var rfl) (tuOs_map _ tuO_row C)) exN S1 _ ⟨rfl, fun i e z => .inl z⟩ (fun d _ => tg_name) (fun d hd D' σ' H' e2 S2 nx rt => ?_) fun σ' H' e2 S2 => ?_
  · obtain ⟨r, hr', rfl⟩ := List.mem_map.mp hd
    have hl := hC.rect r hr'
    refine s_ifF (H0 := fun _ => none) ((b_or (b_not (b_B (e_isTup (e_var rfl)))) fun _ => b_or (b_not (b_test (e_chain e_int (e_lenT (e_var rfl)) e_int))) fun _ => b_test (e_neI (e_lenT (e_var rfl)) (e_lenT (e_ixT (e_var rfl) e_int (C0_row hC))))).to ?_) exN S2 fun H3 e3 S3 => ?_
    · rw [List.length_map, List.length_map, hl, len16 hC.w1 hC.w6, decide_eq_true (show ((wd C : Nat) : Int) = ((C.getD 0 []).length : Nat) from rfl)]
      rfl
    refine s_ifLF (H0 := fun _ => none) ((b_not (b_B (e_all (bs := r.map fun x => (decide (0 ≤ x) && decide (x ≤ 1000000000))) ((l_lcA r .int (fun x => .bool (decide (0 ≤ x) && decide (x ≤ 1000000000))) _ (i_tup (e_var rfl)) (by have := hC.w6; omega) (js := [2]) (by simp) (fun _ _ => tg_name) (fun x _ => e_call (x, 0, 1000000000) (a_cons (e_var rfl) (a_cons e_int (a_cons e_int a_nil))) trivial fun _ p => p) (fun _ => rfl)).eh.to (by rw [List.map_map]; rfl))))).to ?_) exN S3 fun H4 e4 S4 => nx _ _ (e3.trans e4) (S4.weak rfl fun i e z => ?_)
    · have : (r.map fun x => (decide (0 ≤ x) && decide (x ≤ 1000000000))).all id = true := by
        rw [List.all_map, List.all_eq_true]
        intro x hx
        show (decide (0 ≤ x) && decide (x ≤ 1000000000)) = true
        rw [decide_eq_true (hC.nn r hr' x hx), decide_eq_true (hC.top r hr' x hx)]
        rfl
      rw [this]
      rfl
    · match i, z with
      | 0, z => exact .inl z
      | 1, z => exact .inr (Option.some.inj z).symm
      | 2, z => exact .inr (Option.some.inj z).symm
  · exact s_ret (H0 := fun _ => none) e_bl exN S2 fun v H3 e3 d3 => k v _ H3 ((e1.trans e2).trans e3) d3 rfl
theorem at0 {ds : List PyData} {d : PyData} : atI (d :: ds) (0 : Int) = some d := atI_nat (j := 0) rfl
theorem at1 {ds : List PyData} {d e : PyData} : atI (d :: e :: ds) (1 : Int) = some e := atI_nat (j := 1) rfl
theorem at2 {ds : List PyData} {d e f : PyData} : atI (d :: e :: f :: ds) (2 : Int) = some f := atI_nat (j := 2) rfl
theorem in_rng {i n : Nat} (h : i < n) : (decide ((0 : Int) ≤ (i : Int)) && decide ((i : Int) ≤ (n : Int) - 1)) = true := by
  rw [decide_eq_true (by omega), decide_eq_true (by omega)]
  rfl
theorem ok_is_place (F : Fn K mg "is_place" s_is_place p_is_place) (T : Tx0 K mg) (c_is_within : Ca P w K mg base "is_within" 2 p_is_within (spWithin K)) : Ca P w K mg base "is_place" 3 p_is_place (spPlace K) := by
  refine F.ca sc_is_place (spF_len (n := 2) fun _ => rfl) (fun f cdv A outer s H vs Q E hr h => ?_)
  obtain ⟨⟨C, p⟩, hv, ⟨hC, hp1, hp2⟩, k⟩ := h
  have nd := sc_is_place.nd
  refine ⟨_, (pss_cons (ps_if (PW.pt (pw_or (pt_not (pt_val (pe_callB (ck_isiK K rfl) (by rfl) T.isinstance (by decide +kernel) (pa_cons (pv 1) (pa_cons (pe_bltn (v := .ty "tuple") (by rfl) T.tuple_ (by decide +kernel) rfl) pa_nil))))) (pw_or1 (pt_cmpR op_ne (pe_callB (ck_lenK K rfl) (by rfl) T.len_ PySem.boot_len (pa_cons (pv 1) pa_nil)) pe_int (nomark _))))) (pss_one (ps_ret pe_bl)) pss_nil)
    (pss_one (ps_ret (pe_and (pe_ca c_is_within hr (by decide) (by rfl) (pa_cons (pe_ix (ix_tupK K rfl) (pv 1) pe_int (fun _ _ => rfl)) (pa_cons pe_int (pa_cons (pe_op op_sub (pe_callB (ck_lenK K rfl) (by rfl) T.len_ PySem.boot_len (pa_cons (pv 0) pa_nil)) pe_int) pa_nil)))) (pe_one (pe_ca c_is_within hr (by decide) (by rfl) (pa_cons (pe_ix (ix_tupK K rfl) (pv 1) pe_int (fun _ _ => rfl)) (pa_cons pe_int (pa_cons (pe_op op_sub (pe_callB (ck_lenK K rfl) (by rfl) T.len_ PySem.boot_len (pa_cons (pe_ix (ix_tupK K rfl) (pv 0) pe_int (fun _ _ => rfl)) pa_nil)) pe_int) pa_nil))))))))), ?_⟩
  have S : Sl K H _ [.d (dTab C), .d (dPl p)] := sl_begin hv n_is_place
  refine s_ifF (H0 := fun _ => none) ((b_or (b_not (b_B (e_isTup (e_var rfl)))) fun _ => b_test (e_neI (e_lenT (e_var rfl)) e_int)).to rfl) exN S fun H1 e1 S1 => ?_
  refine s_ret (H0 := fun _ => none) ((e_and (e_call ((p.1 : Int), 0, (C.length : Int) - 1) (a_cons (e_ixT (e_var rfl) e_int at0) (a_cons e_int (a_cons (e_sub ((e_lenT (e_var rfl)).to (by rw [List.length_map])) e_int) a_nil))) trivial fun _ q => q) fun _ =>
    e_call ((p.2 : Int), 0, (wd C : Int) - 1) (a_cons (e_ixT (e_var rfl) e_int at1) (a_cons e_int (a_cons (e_sub ((e_lenT (e_ixT (e_var rfl) e_int (C0_row hC))).to (by rw [List.length_map]; rfl)) e_int) a_nil))) trivial fun _ q => q).to ?_) exN S1 fun v H2 e2 d2 => k v _ H2 (e1.trans e2) d2 rfl
  rw [in_rng hp1, in_rng hp2]
  rfl
theorem cutD_1 (ds : List PyData) : cutD ds (some 1) none = ds.drop 1 := by
  unfold cutD
  rw [show (some (1 : Int)) = some ((1 : Nat) : Int) from rfl, HT.sIx_nat, HT.sIx_none]
  cases ds with
  | nil => rfl
  | cons a l =>
    have : min 1 (a :: l).length = 1 := by simp
    rw [this, List.drop_succ_cons, List.drop_zero]
    exact List.take_of_length_le (by simp)
theorem dZip_map {α : Type} (f : α → PyData) (xs ys : List α) : dZip (xs.map f) (ys.map f) = (xs.zip ys).map fun p => .tuple [f p.1, f p.2] := by
  unfold dZip
  rw [List.zip_map, List.map_map]
  rfl
theorem adj_rise {hs : List Pl} (h : hs.Pairwise plLt) : ∀ q ∈ hs.zip (hs.drop 1), plLt q.1 q.2 := by
  induction hs with
  | nil => intro q hq; simp at hq
  | cons a l ih =>
    cases l with
    | nil => intro q hq; simp at hq
    | cons b m =>
      intro q hq
      rw [List.pairwise_cons] at h
      rw [List.drop_succ_cons, List.drop_zero, List.zip_cons_cons] at hq
      rcases List.mem_cons.mp hq with e | hq
      · subst e
        exact h.1 b (by simp)
      · exact ih h.2 q (by rw [List.drop_succ_cons, List.drop_zero]; exact hq)
theorem lex_of {p q : Pl} (h : plLt p q) : HT.lexLt [(p.1 : Int), (p.2 : Int)] [(q.1 : Int), (q.2 : Int)] = true := by
  rw [HT.lexLt_cons, HT.lexLt_cons]
  unfold plLt at h
  by_cases e : (p.1 : Int) = q.1
  · rw [if_pos e]
    have : ¬ (p.2 : Int) = q.2 := by omega
    rw [if_neg this]
    exact decide_eq_true (by omega)
  · rw [if_neg e]
    exact decide_eq_true (by omega)
theorem VH.len {C : Tab} {hs : List Pl} (v : VC C) (vh : VH C hs) : hs.length ≤ 36 := by
  have key : ∀ (ks : List Pl) (b : Nat), ks.Pairwise plLt → (∀ h ∈ ks, b ≤ h.1 * 6 + h.2 ∧ h.1 < 6 ∧ h.2 < 6) → ks.length + b ≤ 36 ∨ ks = [] := by
    intro ks
    induction ks with
    | nil => intro b _ _; exact .inr rfl
    | cons a l ih =>
      intro b hp hb
      refine .inl ?_
      rw [List.pairwise_cons] at hp
      have ha := hb a (by simp)
      rcases ih (a.1 * 6 + a.2 + 1) hp.2 (fun h hh => by
        have h1 := hp.1 h hh
        have h2 := hb h (by simp [hh])
        unfold plLt at h1
        omega) with q | q
      · rw [List.length_cons]; omega
      · subst q
        simp only [List.length_cons, List.length_nil]
        omega
  rcases key hs 0 vh.rise (fun h hh => by
    have h1 := vh.inr h hh
    have h2 := v.l6
    have h3 := v.w6
    omega) with q | q
  · omega
  · subst q; simp
theorem ok_are_places (F : Fn K mg "are_places" s_are_places p_are_places) (T : Tx0 K mg) (c_is_place : Ca P w K mg base "is_place" 3 p_is_place (spPlace K)) : Ca P w K mg base "are_places" 4 p_are_places (spPlaces K) := by
  refine F.ca sc_are_places (spF_len (n := 2) fun _ => rfl) (fun f cdv A outer s H vs Q E hr h => ?_)
  obtain ⟨⟨C, hs⟩, hv, ⟨hC, hH⟩, k⟩ := h
  have nd := sc_are_places.nd
  refine ⟨_, (pss_cons (ps_if (PW.pt (pw_or (pt_not (pt_val (pe_callB (ck_isiK K rfl) (by rfl) T.isinstance (by decide +kernel) (pa_cons (pv 1) (pa_cons (pe_bltn (v := .ty "tuple") (by rfl) T.tuple_ (by decide +kernel) rfl) pa_nil))))) (pw_or1 (pt_not (pt_val (pe_callB (ck_allK K rfl rfl) (by rfl) T.all_ (by decide +kernel) (pa_cons (pe_lc (own := [("place", 4)]) rfl nd (pi_tupK K rfl (pv 1)) (blkOk_by (N := n_are_places) (sc := defScope s_are_places) (by decide +kernel)) (fun _ _ _ _ _ => (pg_name (i := 4) nd rfl (Or.inl rfl))) (fun _ _ _ _ _ => pts_nil) (fun _ _ _ _ _ => (pe_ca c_is_place hr (by decide) (by rfl) (pa_cons (pv 0) (pa_cons (pv 4) pa_nil))))) pa_nil))))))) (pss_one (ps_ret pe_bl)) pss_nil)
    (pss_one (ps_ret (pe_callB (ck_allK K rfl rfl) (by rfl) T.all_ (by decide +kernel) (pa_cons (pe_lc (own := [("one", 2), ("other", 3)]) rfl nd (pi_zipK K rfl (by rfl) T.zip_ (pa_cons (pv 1) (pa_cons (pe_slice (sl_tupK K rfl) (pv 1) (po_some pe_int) po_none) pa_nil))) (blkOk_by (N := n_are_places) (sc := defScope s_are_places) (by decide +kernel)) (fun _ _ _ _ _ => (pg_tupK K rfl (n := 2) rfl (pgs_cons (pg_name (i := 2) nd rfl (Or.inl rfl)) (pgs_cons (pg_name (i := 3) nd rfl (Or.inl rfl)) pgs_nil)))) (fun _ _ _ _ _ => pts_nil) (fun _ _ _ _ _ => (pe_cmpR (op_ltTK K rfl hr.units0) (pv 2) (pv 3) (nomark _)))) pa_nil))))), ?_⟩
  have S : Sl K H _ [.d (dTab C), .d (dHid hs), .no, .no, .no] := sl_begin hv n_are_places
  have hlen : hs.length ≤ 36 := hH.len hC
  refine s_ifF (H0 := fun _ => none) ((b_or (b_not (b_B (e_isTup (e_var rfl)))) fun _ => b_not (b_B (e_all (bs := hs.map fun _ => true) ((l_lcA hs dPl (fun _ => .bool true) _ (i_tup (e_var rfl)) (by omega) (js := [4]) (by simp) (fun _ _ => tg_name) (fun x hx => e_call (C, x) (a_cons (e_var rfl) (a_cons (e_var rfl) a_nil)) ⟨hC, hH.inr x hx⟩ fun _ p => p) (fun _ => rfl)).eh.to (by rw [List.map_map]; rfl))))).to ?_) exN S fun H1 e1 S1 => ?_
  · have : (hs.map fun _ => true).all id = true := by simp
    rw [this]
    rfl
  refine s_ret (H0 := fun _ => none) ((e_all (bs := (hs.zip (hs.drop 1)).map fun q => HT.lexLt [(q.1.1 : Int), (q.1.2 : Int)] [(q.2.1 : Int), (q.2.2 : Int)]) ((l_lcA (hs.zip (hs.drop 1)) (fun q => .tuple [dPl q.1, dPl q.2]) (fun q => .bool (HT.lexLt [(q.1.1 : Int), (q.1.2 : Int)] [(q.2.1 : Int), (q.2.2 : Int)])) _
    (by
      have h := (j_zipT (K := K) (H0 := fun _ => none) (Γ := [.d (dTab C), .d (dHid hs), .no, .no, .no]) (e_var (n := 1) rfl) (e_slT (e_var (n := 1) rfl) (o_some e_int) o_none) (tuOs_map _ tuO_pl hs) (by rw [cutD_1, ← List.map_drop]; exact tuOs_map _ tuO_pl _)).ih
      rw [cutD_1, ← List.map_drop, dZip_map] at h
      exact h)
    (by rw [List.length_zip]; omega) (js := [2, 3]) (by simp) (fun _ _ => tg_2) (fun x hx => e_ltT (ns := [(x.1.1 : Int), (x.1.2 : Int)]) (ms := [(x.2.1 : Int), (x.2.2 : Int)]) (e_var rfl) (e_var rfl)) (fun _ => rfl)).eh.to (by rw [List.map_map]; rfl))).to ?_) exN S1 fun v H2 e2 d2 => k v _ H2 (e1.trans e2) d2 rfl
  congr 1
  rw [List.all_map, List.all_eq_true]
  intro q hq
  exact lex_of (adj_rise hH.rise q hq)
theorem ok_need_hidden (F : Fn K mg "need_hidden" s_need_hidden p_need_hidden) (T : Tx0 K mg) (c_are_counts : Ca P w K mg base "are_counts" 3 p_are_counts (spCounts K)) (c_are_places : Ca P w K mg base "are_places" 4 p_are_places (spPlaces K)) : Ca P w K mg base "need_hidden" 5 p_need_hidden (spNeedH K) := by
  refine F.ca sc_need_hidden (spF_len (n := 2) fun _ => rfl) (fun f cdv A outer s H vs Q E hr h => ?_)
  obtain ⟨⟨C, hs⟩, hv, ⟨hC, hH⟩, k⟩ := h
  have nd := sc_need_hidden.nd
  refine ⟨_, (pss_cons (ps_if (pt_not (pt_val (pe_ca c_are_counts hr (by decide) (by rfl) (pa_cons (pv 0) pa_nil)))) (pss_one ps_never) pss_nil)
    (pss_one (ps_if (pt_not (pt_val (pe_ca c_are_places hr (by decide) (by rfl) (pa_cons (pv 0) (pa_cons (pv 1) pa_nil))))) (pss_one ps_never) pss_nil))), ?_⟩
  have S : Sl K H _ [.d (dTab C), .d (dHid hs)] := sl_begin hv n_need_hidden
  refine s_ifF (H0 := fun _ => none) ((b_not (b_B (e_call C (a_cons (e_var rfl) a_nil) hC fun _ p => p))).to rfl) exN S fun H1 e1 S1 => ?_
  refine s_ifLF (H0 := fun _ => none) ((b_not (b_B (e_call (C, hs) (a_cons (e_var rfl) (a_cons (e_var rfl) a_nil)) ⟨hC, hH⟩ fun _ p => p))).to rfl) exN S1 fun H2 e2 S2 => ?_
  exact k _ _ H2 (e1.trans e2) .non rfl
theorem ok_need_place (F : Fn K mg "need_place" s_need_place p_need_place) (T : Tx0 K mg) (c_need_hidden : Ca P w K mg base "need_hidden" 5 p_need_hidden (spNeedH K)) (c_is_place : Ca P w K mg base "is_place" 3 p_is_place (spPlace K)) : Ca P w K mg base "need_place" 6 p_need_place (spNeedP K) := by
  refine F.ca sc_need_place (spF_len (n := 3) fun _ => rfl) (fun f cdv A outer s H vs Q E hr h => ?_)
  obtain ⟨⟨C, hs, p⟩, hv, ⟨hC, hH, hp⟩, k⟩ := h
  have nd := sc_need_place.nd
  refine ⟨_, (pss_cons (ps_expr (pe_ca c_need_hidden hr (by decide) (by rfl) (pa_cons (pv 0) (pa_cons (pv 1) pa_nil))))
    (pss_one (ps_if (PW.pt (pw_or (pt_not (pt_val (pe_ca c_is_place hr (by decide) (by rfl) (pa_cons (pv 0) (pa_cons (pv 2) pa_nil))))) (pw_or1 (pt_cmpR (op_notInTDK K rfl hr.units) (pv 2) (pv 1) rfl)))) (pss_one ps_never) pss_nil))), ?_⟩
  have S : Sl K H _ [.d (dTab C), .d (dHid hs), .d (dPl p)] := sl_begin hv n_need_place
  refine s_drop (H0 := fun _ => none) (e_call (d := .none) (C, hs) (a_cons (e_var rfl) (a_cons (e_var rfl) a_nil)) ⟨hC, hH⟩ fun _ p => p) exN S fun H1 e1 S1 => ?_
  refine s_ifLF (H0 := fun _ => none) ((b_or (b_not (b_B (e_call (C, p) (a_cons (e_var rfl) (a_cons (e_var rfl) a_nil)) ⟨hC, hH.inr p hp⟩ fun _ p => p))) fun _ => b_test (e_inTD (neg := true) (ds := hs.map dPl) (e_var rfl) (e_var rfl) (shaped_pl p) (shaped_hid hs))).to ?_) exN S1 fun H2 e2 S2 => ?_
  · rw [any_pl, decide_eq_true hp]
    rfl
  exact k _ _ H2 (e1.trans e2) .non rfl
end
end Ak
set_option Elab.async false
set_option linter.all false
set_option maxRecDepth 100000
set_option maxHeartbeats 4000000
/-! AkD: dicts of nodes, fresh lists from calls, while, for over a list. -/
namespace Ak
open PySem PySem.Spec PyProof.Rows L2 Evl
section
variable {K : PySem.W.Frag} {H0 H : Hp} {Γ : Env1} {σ : Sg} {ta te ty td tl : TE} {d : PyData} {v : V}
theorem e_varB {n : Nat} (h : Γ[n]? = some (.v v)) (hd : Dq K H0 v d) : Eh K H0 Γ (tVar n) d := fun σ H e0 s Q q => ⟨v, s.val h, q v H (Ex.refl H) (dp_ex e0 _ _ hd)⟩
theorem sl_vals {vs : List V} (N : List Str) : Sl K H (L2.start N vs) (vs.map .v ++ noEn (N.length - vs.length)) := by
  refine ⟨by simp [L2.start, noEn], fun i e he => ?_⟩
  by_cases hi : i < vs.length
  · rw [List.getElem?_append_left (by simpa using hi), List.getElem?_map, List.getElem?_eq_getElem hi] at he
    cases he
    show (vs.map some ++ List.replicate (N.length - vs.length) none)[i]? = _
    rw [List.getElem?_append_left (by simpa using hi), List.getElem?_map, List.getElem?_eq_getElem hi]
    rfl
  · rw [List.getElem?_append_right (by simpa using hi)] at he
    unfold noEn at he
    have := List.mem_of_getElem? he
    rw [List.mem_replicate] at this
    rw [this.2]
    exact True.intro
/-- a slot's datum told by its value instead -/
theorem Sl.toV {n : Nat} (s : Sl K H σ Γ) (h : σ[n]? = some (some v)) : Sl K H σ (Γ.set n (.v v)) := by
  refine ⟨by rw [List.length_set]; exact s.len, fun j f hj => ?_⟩
  by_cases q : n = j
  · subst q
    by_cases hl : n < Γ.length
    · rw [List.getElem?_set_self hl] at hj
      cases hj
      exact h
    · rw [List.getElem?_eq_none (by rw [List.length_set]; omega)] at hj
      cases hj
  · rw [List.getElem?_set_ne q] at hj
    exact s.get j f hj
/-- a promise that gives a new list -/
def spFL {α : Type} (args : α → List PyData) (pre : α → Prop) (out : α → List PyData) (K : PySem.W.Frag) : Sp := fun vs H Q _ => ∃ a : α, DqAll K H vs (args a) ∧ pre a ∧ ∀ p xs H', H p = none → Ex H H' → H' p = some (.lst xs) → DqAll K H' xs (out a) → Q (.ref p) H'
theorem spFL_len {α : Type} {args : α → List PyData} {pre : α → Prop} {out : α → List PyData} {n : Nat} (h : ∀ a, (args a).length = n) (vs : List V) (H : Hp) (Q : VK) (E : XK) (s : spFL args pre out K vs H Q E) : vs.length = n := by
  obtain ⟨a, h1, _⟩ := s
  rw [dps_len h1, h]
theorem l_call {α : Type} {args : α → List PyData} {pre : α → Prop} {out : α → List PyData} {E : XK} {tr : TA} (a : α) (h : Ah K H0 Γ tr (args a)) (hp : pre a) : Lh K H0 Γ (tCall (spFL args pre out K) [] E tr) (out a) := fun σ H e0 s Q q =>
  h σ H e0 s _ fun vs H1 e1 h1 => ⟨a, by rw [List.append_nil]; exact h1, hp, fun p xs H2 hp e2 h2 h3 => q p xs H2 (fresh_back e1 hp) (e1.trans e2) h2 h3⟩
theorem s_retL {ds : List PyData} {D : Ends} (h : Lh K H0 Γ te ds) (e0 : Ex H0 H) (s : Sl K H σ Γ) (k : ∀ p xs H1, H p = none → Ex H H1 → H1 p = some (.lst xs) → DqAll K H1 xs ds → D.rt (.ref p) H1) : tRet te D σ H := h σ H e0 s _ k
/-! dicts of nodes -/
def keyNd (x : Nd) : List Key := [.inr (ndW x), .inl (x.ix : Nat)]
theorem keyNd_inj {x y : Nd} (h : keyNd x = keyNd y) : x = y := by
  have e1 : ¬ Str.ofString "row" = Str.ofString "column" := by decide +kernel
  have e2 : ¬ Str.ofString "column" = Str.ofString "row" := by decide +kernel
  cases x <;> cases y <;> simp [keyNd, ndW, Nd.ix] at h
  · rw [Int.ofNat_inj.mp h]
  · exact absurd h.1 e1
  · exact absurd h.1 e2
  · rw [Int.ofNat_inj.mp h]
def dOp : Option Nd → PyData
  | none => .none
  | some a => dNd a
theorem tuO_op (o : Option Nd) : tuO (dOp o) = true := by cases o <;> rfl
theorem dq_nd {x : Nd} (h : Dq K H v (dNd x)) : ∃ b, v = .ref b ∧ H b = some (.tup ((keyNd x).map kV)) := by
  obtain ⟨b, xs, rfl, h1, h2⟩ := dp_tup h
  cases h2 with
  | cons a t =>
    cases t with
    | cons b' t =>
      cases t
      cases dp_str a
      cases dp_int b'
      exact ⟨b, rfl, h1⟩
structure Di (K : PySem.W.Frag) (H : Hp) (p : Addr) (es : List Ent) : Prop where
  ex : ∃ kvs : List (List Key × V), H p = some (.dT kvs) ∧ kvs.map (·.1) = es.map (fun e => keyNd e.1) ∧ DqAll K H (kvs.map (·.2)) (es.map fun e => dOp e.2)
theorem tuOs_op (es : List Ent) : tuOs (es.map fun e => dOp e.2) = true := tuOs_map (fun e : Ent => dOp e.2) (fun e => tuO_op e.2) es
theorem Di.tx {H' : Hp} {p : Addr} {es : List Ent} (h : Di K H p es) (e : Tx K H H') (hp : ∀ kvs, H p = some (.dT kvs) → H' p = some (.dT kvs)) : Di K H' p es := by
  obtain ⟨kvs, h1, h2, h3⟩ := h
  exact ⟨kvs, hp _ h1, h2, dps_tx e _ _ (tuOs_op es) h3⟩
theorem Di.xx {H' : Hp} {p : Addr} {es : List Ent} (h : Di K H p es) (e : Ex H H') : Di K H' p es := h.tx (Tx.of e) fun _ z => e _ _ z
theorem val_look : ∀ (es : List Ent) (kvs : List (List Key × V)) (x : Nd), kvs.map (·.1) = es.map (fun e => keyNd e.1) → DqAll K H (kvs.map (·.2)) (es.map fun e => dOp e.2) →
    (look es x = none → valV kvs (keyNd x) = none) ∧ ∀ o, look es x = some o → ∃ w, valV kvs (keyNd x) = some w ∧ Dq K H w (dOp o)
  | [], kvs, x, h1, h2 => by
    have : kvs = [] := by simpa using h1
    subst this
    exact ⟨fun _ => rfl, fun o h => by simp [look] at h⟩
  | e :: es, [], x, h1, h2 => by simp at h1
  | e :: es, (k, w) :: kvs, x, h1, h2 => by
    simp only [List.map_cons, List.cons.injEq] at h1 h2
    cases h2 with
    | cons a t =>
      have ih := val_look es kvs x h1.2 t
      by_cases q : e.1 = x
      · have hk : (k, w).1 = keyNd x := by rw [← q]; exact h1.1
        rw [valV_pos hk]
        have hl : look (e :: es) x = some e.2 := by
          unfold look
          rw [List.find?_cons_of_pos (by simpa using q)]
          rfl
        rw [hl]
        exact ⟨(fun z => nomatch z), fun o z => ⟨w, rfl, by cases z; exact a⟩⟩
      · have hk : ¬ (k, w).1 = keyNd x := fun z => q (keyNd_inj (by rw [← z]; exact h1.1.symm))
        rw [valV_neg hk]
        have hl : look (e :: es) x = look es x := by
          unfold look
          rw [List.find?_cons_of_neg (by simpa using q)]
        rw [hl]
        exact ih
theorem Di.get {p : Addr} {es : List Ent} (h : Di K H p es) {x : Nd} {w : V} (hw : Dq K H w (dNd x)) : (look es x = none → DGet H p w none) ∧ ∀ o, look es x = some o → ∃ u, DGet H p w (some u) ∧ Dq K H u (dOp o) := by
  obtain ⟨kvs, h1, h2, h3⟩ := h
  obtain ⟨b, rfl, hb⟩ := dq_nd hw
  have V := val_look es kvs x h2 h3
  refine ⟨fun z => ?_, fun o z => ?_⟩
  · have := DGet.t h1 hb
    rw [V.1 z] at this
    exact this
  · obtain ⟨u, hu, hq⟩ := V.2 o z
    have := DGet.t h1 hb
    rw [hu] at this
    exact ⟨u, this, hq⟩
theorem e_din {n : Nat} {p : Addr} {es : List Ent} {x : Nd} (hn : Γ[n]? = some (.v (.ref p))) (D : Di K H0 p es) (h : Eh K H0 Γ ty (dNd x)) : Eh K H0 Γ (tDIn ty (tVar n)) (.bool (look es x).isSome) := fun σ H e0 s Q q =>
  h σ H e0 s _ fun w H1 e1 h1 => ⟨_, (s.ex e1).val hn, by
    have G := (D.xx (e0.trans e1)).get h1
    cases hl : look es x with
    | none =>
      rw [hl] at q
      exact ⟨p, none, rfl, G.1 hl, q _ H1 e1 (.bl _)⟩
    | some o =>
      rw [hl] at q
      obtain ⟨u, g, _⟩ := G.2 o hl
      exact ⟨p, some u, rfl, g, q _ H1 e1 (.bl _)⟩⟩
theorem e_dnotin {n : Nat} {p : Addr} {es : List Ent} {x : Nd} (hn : Γ[n]? = some (.v (.ref p))) (D : Di K H0 p es) (h : Eh K H0 Γ ty (dNd x)) : Eh K H0 Γ (tDNotIn ty (tVar n)) (.bool (!(look es x).isSome)) := fun σ H e0 s Q q =>
  h σ H e0 s _ fun w H1 e1 h1 => ⟨_, (s.ex e1).val hn, by
    have G := (D.xx (e0.trans e1)).get h1
    cases hl : look es x with
    | none =>
      rw [hl] at q
      exact ⟨p, none, rfl, G.1 hl, q _ H1 e1 (.bl _)⟩
    | some o =>
      rw [hl] at q
      obtain ⟨u, g, _⟩ := G.2 o hl
      exact ⟨p, some u, rfl, g, q _ H1 e1 (.bl _)⟩⟩
theorem e_dget {n : Nat} {p : Addr} {es : List Ent} {x : Nd} {o : Option Nd} (hn : Γ[n]? = some (.v (.ref p))) (D : Di K H0 p es) (h : Eh K H0 Γ ty (dNd x)) (hl : look es x = some o) : Eh K H0 Γ (tDGet (tVar n) ty) (dOp o) := fun σ H e0 s Q q =>
  ⟨_, s.val hn, h σ H e0 s _ fun w H1 e1 h1 => by
    obtain ⟨u, g, hu⟩ := ((D.xx (e0.trans e1)).get h1).2 o hl
    exact ⟨p, u, rfl, g, q _ H1 e1 hu⟩⟩
theorem map_len {α β γ : Type} {f : α → γ} {g : β → γ} {xs : List α} {ys : List β} (h : xs.map f = ys.map g) : xs.length = ys.length := by
  have := congrArg List.length h
  simpa using this
/-- d[x] = a, x not yet there -/
theorem s_dput {n : Nat} {p : Addr} {es : List Ent} {x a : Nd} {tv : TE} {tz : TS} {D : Ends} (hn : Γ[n]? = some (.v (.ref p))) (Dp0 : Di K H p es) (hv : Eh K H0 Γ tv (dNd a)) (h : Eh K H0 Γ ty (dNd x)) (hl : look es x = none) (hz : es.length < 100000) (e0 : Ex H0 H) (s : Sl K H σ Γ) (ok : Γ.all En.ok = true)
    (k : ∀ H1 H2 o, Ex H H1 → H2 = upd H1 p o → Tx K H1 H2 → Sl K H2 σ Γ → Di K H2 p (es ++ [(x, some a)]) → tz D σ H2) : tSeq (sDPut (tVar n) ty tv) tz D σ H :=
  hv σ H e0 s _ fun w H1 e1 h1 => ⟨_, (s.ex e1).val hn, h σ H1 (e0.trans e1) (s.ex e1) _ fun y H2 e2 h2 => by
    have D2 := (Dp0.xx e1).xx e2
    obtain ⟨kvs, g1, g2, g3⟩ := D2
    obtain ⟨b, rfl, hb⟩ := dq_nd h2
    have hw := dp_ex e2 _ _ h1
    have V := (val_look es kvs x g2 g3).1 hl
    have ln := map_len g2
    have tx : Tx K H2 (upd H2 p (.dT (putK kvs (keyNd x) w))) := Tx.upd (noT_dT g1)
    refine ⟨p, _, rfl, DPut.t g1 hb (sz_lt (by omega)), ?_⟩
    refine k H2 _ _ (e1.trans e2) rfl tx (((s.ex e1).ex e2).tx ok tx) ⟨_, upd_same, ?_, ?_⟩
    · rw [putK_new _ V, List.map_append, g2, List.map_append]
      rfl
    · rw [putK_new _ V, List.map_append, List.map_append]
      rw [putK_new _ V] at tx
      exact dps_app (dps_tx tx _ _ (tuOs_op es) g3) (.cons (dp_tx tx _ _ (tuO_nd a) hw) .nil)⟩
/-- {x: None} -/
theorem l_disp {x : Nd} {tk tv : TE} (hk : Eh K H0 Γ tk (dNd x)) (hv : Eh K H0 Γ tv .none) (e0 : Ex H0 H) (s : Sl K H σ Γ) (Q : VK) (q : ∀ p H1, H p = none → Ex H H1 → Di K H1 p [(x, none)] → Q (.ref p) H1) : tDispT tk tv σ H Q := fun p hp =>
  hk σ _ (e0.trans (Ex.new hp)) (s.ex (Ex.new hp)) _ fun w H1 e1 h1 => hv σ H1 ((e0.trans (Ex.new hp)).trans e1) ((s.ex (Ex.new hp)).ex e1) _ fun u H2 e2 h2 => by
    have ex := (Ex.new (o := .dT []) hp).trans (e1.trans e2)
    have g1 : H2 p = some (.dT []) := (e1.trans e2) _ _ upd_same
    obtain ⟨b, rfl, hb⟩ := dq_nd (dp_ex e2 _ _ h1)
    refine ⟨g1, b, _, rfl, hb, ?_⟩
    have tx : Tx K H2 (upd H2 p (.dT [(keyNd x, u)])) := Tx.upd (noT_dT g1)
    refine q p _ hp (Ex.mut ex hp) ⟨_, upd_same, rfl, .cons (dp_tx tx _ _ rfl h2) .nil⟩
/-! statements -/
theorem s_asgDisp {x : Nd} {tk tv : TE} {i : Nat} {tz : TS} {D : Ends} (hk : Eh K H0 Γ tk (dNd x)) (hv : Eh K H0 Γ tv .none) (e0 : Ex H0 H) (s : Sl K H σ Γ)
    (k : ∀ σ' H1 p, H p = none → Ex H H1 → Di K H1 p [(x, none)] → Sl K H1 σ' (Γ.set i (.v (.ref p))) → tz D σ' H1) : tSeq (tAsg (tDispT tk tv) (gName i)) tz D σ H :=
  l_disp hk hv e0 s (fun v H1 => gName i v σ H1 (tz D)) fun p H1 hp e1 h1 => k _ H1 p hp e1 h1 ((s.ex e1).setV)
/-- x = l.pop(0) -/
theorem s_pop0 {n i : Nat} {q : Addr} {xs : List V} {tz : TS} {D : Ends} (hn : Γ[n]? = some (.v (.ref q))) (hl : H q = some (.lst (v :: xs))) (hd : Dq K H v d) (ht : tuO d = true) (s : Sl K H σ Γ) (ok : Γ.all En.ok = true)
    (k : ∀ σ', Tx K H (upd H q (.lst xs)) → Sl K (upd H q (.lst xs)) σ' (Γ.set i (.d d)) → tz D σ' (upd H q (.lst xs))) : tSeq (tAsg (tBM K "list" rPopAt (tVar n) (tCons (tC (.int 0)) tNil)) (gName i)) tz D σ H := by
  have tx : Tx K H (upd H q (.lst xs)) := Tx.upd (noT_lst hl)
  refine ⟨_, s.val hn, .inl ⟨rfl, _, SqL.of hl⟩, q, _, 0, 0, v, rfl, rfl, hl, by decide, by decide, ?_, rfl, ?_⟩
  · show seqIndex? 0 (xs.length + 1) = some 0
    unfold seqIndex?
    simp
  · exact k _ tx ((s.tx ok tx).setD (dp_tx tx _ _ ht hd))
theorem s_while {tt : TT} {tb tz : TS} {D : Ends} (W : Nat → Sg → Hp → Prop) (m0 : Nat) (h0 : W m0 σ H)
    (step : ∀ m σ' H', W m σ' H' → ∃ Hb Δ b, Ex Hb H' ∧ Sl K H' σ' Δ ∧ Bh K Hb Δ tt b ∧ ∀ H1, Ex H' H1 → Sl K H1 σ' Δ → (b = true → tb { D with nx := fun σ2 H2 => ∃ m', m' < m ∧ W m' σ2 H2, ct := fun σ2 H2 => ∃ m', m' < m ∧ W m' σ2 H2, bk := tz D } σ' H1) ∧ (b = false → tz D σ' H1)) : tSeq (tWhile tt tb) tz D σ H := by
  refine ⟨W, ⟨m0, h0⟩, fun m σ' H' w => ?_⟩
  obtain ⟨Hb, Δ, b, e0, s, hb, k⟩ := step m σ' H' w
  refine hb σ' H' e0 s _ fun H1 e1 => ?_
  have k1 := k H1 e1 (s.ex e1)
  cases b with
  | true =>
    rw [if_pos rfl]
    exact ⟨_, fun σ2 H2 z => z, k1.1 rfl⟩
  | false =>
    rw [if_neg Bool.false_ne_true]
    exact k1.2 rfl
theorem s_whileE {tt : TT} {tb : TS} {D : Ends} (W : Nat → Sg → Hp → Prop) (m0 : Nat) (h0 : W m0 σ H)
    (step : ∀ m σ' H', W m σ' H' → ∃ Hb Δ b, Ex Hb H' ∧ Sl K H' σ' Δ ∧ Bh K Hb Δ tt b ∧ ∀ H1, Ex H' H1 → Sl K H1 σ' Δ → (b = true → tb { D with nx := fun σ2 H2 => ∃ m', m' < m ∧ W m' σ2 H2, ct := fun σ2 H2 => ∃ m', m' < m ∧ W m' σ2 H2, bk := D.nx } σ' H1) ∧ (b = false → D.nx σ' H1)) : tWhile tt tb D σ H :=
  s_while (tz := tNext) (D := D) W m0 h0 step
/-- a for over a list that stays -/
theorem s_forL {ds : List PyData} {tb tz : TS} {g : TG} {D : Ends} (P : Addr → List V → Hp → Prop) (hte : ∀ Q : VK, (∀ r xs H1, P r xs H1 → H1 r = some (.lst xs) → DqAll K H1 xs ds → Q (.ref r) H1) → tl σ H Q) (hu : tuOs ds = true)
    (k : ∀ r xs H1, P r xs H1 → H1 r = some (.lst xs) → DqAll K H1 xs ds → ∃ Iv : Nat → Sg → Hp → Prop, Iv 0 σ H1 ∧ (∀ i σ' H', Iv i σ' H' → Tx K H1 H' ∧ H' r = some (.lst xs)) ∧
      (∀ i d v σ' H', ds[i]? = some d → Iv i σ' H' → Dq K H' v d → g v σ' H' fun σ2 H4 => tb { D with nx := Iv (i + 1), ct := Iv (i + 1), bk := tz D } σ2 H4) ∧ ∀ σ' H', Iv ds.length σ' H' → tz D σ' H') : tSeq (tFor (iList K tl) g tb) tz D σ H :=
  hte _ fun r xs H1 p1 hr hd => by
    have ln := dps_len hd
    refine ⟨r, rfl, ⟨xs, SqL.of hr⟩, ?_⟩
    obtain ⟨Iv, h0, htx, hs, hend⟩ := k r xs H1 p1 hr hd
    refine ⟨fun i m σ' H' => m = ds.length - i ∧ i ≤ ds.length ∧ Iv i σ' H', ⟨ds.length, by simp, Nat.zero_le _, h0⟩, ?_⟩
    rintro i m σ' H' ⟨rfl, hi, p⟩
    obtain ⟨tx, hr'⟩ := htx i σ' H' p
    by_cases hlt : i < ds.length
    · refine .inr ⟨⟨xs, xs[i]'(by omega), SqL.of hr', by simp [ln ▸ hlt]⟩, Iv (i + 1), fun σ2 H2 p' => ⟨ds.length - (i + 1), by omega, rfl, hlt, p'⟩, fun x H2 y => ?_⟩
      obtain ⟨z, y⟩ := y
      subst z
      obtain ⟨v, h1, h2⟩ := dps_get (dps_tx tx _ _ hu hd) (List.getElem?_eq_getElem hlt)
      have h3 : xs[i]? = some x := y xs (SqL.of hr')
      rw [h1] at h3
      cases h3
      exact hs i _ _ σ' _ (List.getElem?_eq_getElem hlt) p h2
    · have e : i = ds.length := by omega
      subst e
      exact .inl ⟨⟨xs, SqL.of hr', by omega⟩, hend σ' H' p⟩
theorem s_forLE {ds : List PyData} {tb : TS} {g : TG} {D : Ends} (P : Addr → List V → Hp → Prop) (hte : ∀ Q : VK, (∀ r xs H1, P r xs H1 → H1 r = some (.lst xs) → DqAll K H1 xs ds → Q (.ref r) H1) → tl σ H Q) (hu : tuOs ds = true)
    (k : ∀ r xs H1, P r xs H1 → H1 r = some (.lst xs) → DqAll K H1 xs ds → ∃ Iv : Nat → Sg → Hp → Prop, Iv 0 σ H1 ∧ (∀ i σ' H', Iv i σ' H' → Tx K H1 H' ∧ H' r = some (.lst xs)) ∧
      (∀ i d v σ' H', ds[i]? = some d → Iv i σ' H' → Dq K H' v d → g v σ' H' fun σ2 H4 => tb { D with nx := Iv (i + 1), ct := Iv (i + 1), bk := D.nx } σ2 H4) ∧ ∀ σ' H', Iv ds.length σ' H' → D.nx σ' H') : tFor (iList K tl) g tb D σ H :=
  s_forL (tz := tNext) (D := D) P hte hu k
end
end Ak
set_option Elab.async false
set_option linter.all false
set_option maxRecDepth 100000
set_option maxHeartbeats 4000000
/-! AkF2: steps, what is reached, roads. -/
namespace Ak
open PySem PySem.Spec PyProof.Rows L2 Evl
def dMt (T : Tab) : PyData := .list (T.map fun r => .list (r.map .int))
def dMo (os : List Pl) : PyData := .list (os.map dPl)
def spSteps : PySem.W.Frag → Sp := spFL (fun a : Tab × List Pl × Nd => [dMt a.1, dMo a.2.1, dNd a.2.2]) (fun a => (∀ p ∈ a.2.1, inT a.1 p) ∧ a.2.1.length ≤ 36) (fun a => (succs a.1 a.2.1 a.2.2).map dNd)
section
variable {P : Program} {w : World} {K : PySem.W.Frag} {mg : Str → Option Value} {base : Heap} {H0 : Hp} {Γ : Env1} {ta tb te : TE} {d : PyData}
theorem at_row {T : Tab} {p : Pl} (h : inT T p) : atI (T.map fun r => PyData.list (r.map .int)) ((p.1 : Nat) : Int) = some (.list ((T.getD p.1 []).map .int)) := atI_nat (by
  rw [List.getElem?_map, List.getD_eq_getElem?_getD, List.getElem?_eq_getElem h.1]
  rfl)
theorem at_cell {T : Tab} {p : Pl} (h : inT T p) : atI ((T.getD p.1 []).map PyData.int) ((p.2 : Nat) : Int) = some (.int (tat T p)) := atI_nat (by
  rw [List.getElem?_map, List.getElem?_eq_getElem h.2]
  unfold tat
  rw [List.getD_eq_getElem?_getD (l := T.getD p.1 []), List.getElem?_eq_getElem h.2]
  rfl)
theorem filt_cast {os : List Pl} {f : Pl → Nat} {i : Nat} : os.filter (fun p => decide (((f p : Nat) : Int) = (i : Int))) = os.filter (fun p => decide (f p = i)) := by
  refine List.filter_congr fun p _ => ?_
  by_cases e : f p = i
  · rw [decide_eq_true e, decide_eq_true (by omega)]
  · rw [decide_eq_false e, decide_eq_false (by omega)]
theorem w_cr : ¬ decide (Str.ofString "column" = Str.ofString "row") = true := by decide +kernel
theorem w_rr : ¬ decide (Str.ofString "row" = Str.ofString "row") = false := by decide +kernel
theorem w_rc : ¬ decide (Str.ofString "row" = Str.ofString "column") = true := by decide +kernel
theorem w_cc : ¬ decide (Str.ofString "column" = Str.ofString "column") = false := by decide +kernel
theorem ok_steps_from (F : Fn K mg "steps_from" s_steps_from p_steps_from) (T : Tx0 K mg) : Ca P w K mg base "steps_from" 1 p_steps_from (spSteps K) := by
  refine F.ca sc_steps_from (spFL_len (n := 3) fun _ => rfl) (fun f cdv A outer s H vs Q E hr h => ?_)
  obtain ⟨⟨M, os, x⟩, hv, ⟨hin, hlen⟩, k⟩ := h
  have hin : ∀ p ∈ os, inT M p := hin
  have hlen : os.length ≤ 36 := hlen
  have nd := sc_steps_from.nd
  refine ⟨_, (pss_cons (ps_asg (pv 2) (pg_tupK K rfl (n := 2) rfl (pgs_cons (pg_name (i := 3) nd rfl (Or.inl rfl)) (pgs_cons (pg_name (i := 4) nd rfl (Or.inr rfl)) pgs_nil))))
    (pss_cons (ps_if (pt_cmpR op_eq (pv 3) pe_str (nomark _)) (pss_one (ps_ret (pe_lc (own := [("row", 5), ("column", 6)]) rfl nd (pi_listK K rfl (pv 1)) (blkOk_by (N := n_steps_from) (sc := defScope s_steps_from) (by decide +kernel)) (fun _ _ _ _ _ => (pg_tupK K rfl (n := 2) rfl (pgs_cons (pg_name (i := 5) nd rfl (Or.inl rfl)) (pgs_cons (pg_name (i := 6) nd rfl (Or.inl rfl)) pgs_nil)))) (fun _ _ _ _ _ => (pts_one (pt_cmpR op_eq (pv 5) (pv 4) (nomark _)))) (fun _ _ _ _ _ => (pe_tup (pa_cons pe_str (pa_cons (pv 6) pa_nil))))))) pss_nil)
    (pss_one (ps_ret (pe_lc (own := [("row", 5), ("column", 6)]) rfl nd (pi_listK K rfl (pv 1)) (blkOk_by (N := n_steps_from) (sc := defScope s_steps_from) (by decide +kernel)) (fun _ _ _ _ _ => (pg_tupK K rfl (n := 2) rfl (pgs_cons (pg_name (i := 5) nd rfl (Or.inl rfl)) (pgs_cons (pg_name (i := 6) nd rfl (Or.inl rfl)) pgs_nil)))) (fun _ _ _ _ _ => (pts_one (PW.pt (pw_and (pt_cmpR op_eq (pv 6) (pv 4) (nomark _)) (pw_and1 (pt_cmpR op_gt (pe_ix (ix_listK K rfl) (pe_ix (ix_listK K rfl) (pv 0) (pv 5) (fun _ _ => rfl)) (pv 6) (fun _ _ => rfl)) pe_int (nomark _))))))) (fun _ _ _ _ _ => (pe_tup (pa_cons pe_str (pa_cons (pv 5) pa_nil))))))))), ?_⟩
  have S : Sl K H _ [.d (dMt M), .d (dMo os), .d (dNd x), .no, .no, .no, .no] := sl_begin hv n_steps_from
  refine s_asgT (H0 := fun _ => none) (e_var rfl) tg_2 exN S fun σ1 H1 e1 S1 => ?_
  refine s_if (H0 := fun _ => none) (b_test (e_eqS (e_var rfl) e_str)) exN S1 (fun b H2 e2 S2 => ?_) (fun b H2 e2 S2 => ?_)
  · cases x with
    | col j => exact absurd b w_cr
    | row i =>
      refine s_retL (H0 := fun _ => none) ((l_lc os dPl (fun p => dNd (.col p.2)) (fun p => decide (((p.1 : Nat) : Int) = (i : Int))) _ (i_list (e_var rfl)) (by omega) (js := [5, 6]) (by simp) (fun _ _ => tg_2) (fun p _ => b_test (e_eqI (e_var rfl) (e_var rfl))) (fun p _ _ => e_tup (a_cons e_str (a_cons (e_var rfl) a_nil)) (by simp)) (fun _ => rfl)).to (es := (succs M os (.row i)).map dNd) ?_) exN S2 fun p xs H3 hp e3 h3 h4 => k p xs H3 (fresh_back (e1.trans e2) hp) ((e1.trans e2).trans e3) h3 h4
      rw [filt_cast (f := fun p : Pl => p.1)]
      unfold succs
      rw [List.map_map]
      rfl
  · cases x with
    | row i => exact absurd b w_rr
    | col j =>
      refine s_retL (H0 := fun _ => none) ((l_lc os dPl (fun p => dNd (.row p.1)) (fun p => decide (((p.2 : Nat) : Int) = (j : Int)) && decide (0 < tat M p)) _ (i_list (e_var rfl)) (by omega) (js := [5, 6]) (by simp) (fun _ _ => tg_2) (fun p hp => b_and (b_test (e_eqI (e_var rfl) (e_var rfl))) fun _ => b_test (e_gt (e_ixL (e_ixL (e_var rfl) (e_var rfl) (at_row (hin p hp))) (e_var rfl) (at_cell (hin p hp))) e_int)) (fun p _ _ => e_tup (a_cons e_str (a_cons (e_var rfl) a_nil)) (by simp)) (fun _ => rfl)).to (es := (succs M os (.col j)).map dNd) ?_) exN S2 fun p xs H3 hp e3 h3 h4 => k p xs H3 (fresh_back (e1.trans e2) hp) ((e1.trans e2).trans e3) h3 h4
      have : os.filter (fun p => decide (((p.2 : Nat) : Int) = (j : Int)) && decide (0 < tat M p)) = os.filter (fun p => decide (p.2 = j) && decide (0 < tat M p)) := by
        refine List.filter_congr fun p _ => ?_
        by_cases e : p.2 = j
        · rw [decide_eq_true e, decide_eq_true (by omega)]
        · rw [decide_eq_false e, decide_eq_false (by omega)]
      rw [this]
      unfold succs
      rw [List.map_map]
      rfl
/-! what is reached -/
def allN : List Nd := (List.range 6).map .row ++ (List.range 6).map .col
theorem mem_allN {x : Nd} : x ∈ allN ↔ x.ix < 6 := by
  unfold allN
  cases x <;> simp [Nd.ix]
theorem keys_le {es : List Ent} (nd : (es.map (·.1)).Nodup) (h : ∀ x ∈ es.map (·.1), x ∈ allN) : es.length ≤ 12 := by
  have h1 := List.Nodup.length_le_of_subset nd (l₂ := allN) h
  have h2 : allN.length = 12 := by decide +kernel
  rw [List.length_map, h2] at h1
  exact h1
def Closed (E : Nd → Nd → Prop) (es : List Ent) : Prop := ∀ a b, a ∈ es.map (·.1) → E a b → b ∈ es.map (·.1)
structure PreR (T : Tab) (os : List Pl) (x : Nd) : Prop where
  inn : ∀ p ∈ os, inT T p
  len : os.length ≤ 36
  sm : ∀ p ∈ os, p.1 < 6 ∧ p.2 < 6
  st : x.ix < 6
theorem PreR.succ {T : Tab} {os : List Pl} {x a b : Nd} (h : PreR T os x) (e : Edge T os a b) : b ∈ allN := by
  rw [mem_allN]
  cases a with
  | row i =>
    cases b with
    | row _ => exact e.elim
    | col j => exact (h.sm _ e).2
  | col j =>
    cases b with
    | col _ => exact e.elim
    | row i => exact (h.sm _ e.1).1
/-- between the turns of the search -/
structure Bf (T : Tab) (os : List Pl) (s : Nd) (dn ws : List Nd) (es : List Ent) : Prop where
  keys : es.map (·.1) = dn ++ ws
  tree : Tree (Edge T os) s es
  cl : ∀ a ∈ dn, ∀ b, Edge T os a b → b ∈ es.map (·.1)
  all : ∀ x ∈ es.map (·.1), x ∈ allN
def spReach (K : PySem.W.Frag) : Sp := fun vs H Q _ => ∃ (T : Tab) (os : List Pl) (s : Nd), DqAll K H vs [dMt T, dMo os, dNd s] ∧ PreR T os s ∧
  ∀ p es H', H p = none → Ex H H' → Di K H' p es → Tree (Edge T os) s es → Closed (Edge T os) es → Q (.ref p) H'
theorem ok_reached_from (F : Fn K mg "reached_from" s_reached_from p_reached_from) (T : Tx0 K mg) (c_steps_from : Ca P w K mg base "steps_from" 1 p_steps_from (spSteps K)) : Ca P w K mg base "reached_from" 2 p_reached_from (spReach K) := by
  refine F.ca sc_reached_from (fun vs H Q E h => by obtain ⟨T, os, s, hv, _⟩ := h; exact dps_len hv) (fun f cdv A outer s H vs Q E hr h => ?_)
  obtain ⟨M, os, x, hv, hpre, k⟩ := h
  have nd := sc_reached_from.nd
  refine ⟨_, (pss_cons (ps_set (i := 3) nd rfl (Or.inl rfl) (pe_dispT (hu_of hr) (pv 2) pe_non))
    (pss_cons (ps_set (i := 4) nd rfl (Or.inl rfl) (pe_lst (pa_cons (pv 2) pa_nil)))
    (pss_cons (ps_while PassesOwn.never (pt_cmpR (op_neDK K rfl hr.units) (pv 4) (pe_lst pa_nil) (nomark _)) (pss_cons (ps_set (i := 5) nd rfl (Or.inl rfl) (pe_bmK K rfl PySem.F.plainAttrs_list PySem.F.slot_list_pop PySem.F.type_list_pop mt_popAt (pv 4) (pa_cons pe_int pa_nil)))
    (pss_one (ps_for PassesOwn.never rfl (pi_listK K rfl (pe_ca c_steps_from hr (by decide) (by rfl) (pa_cons (pv 0) (pa_cons (pv 1) (pa_cons (pv 5) pa_nil))))) (pg_name (i := 6) nd rfl (Or.inl rfl)) (pss_one (ps_if (pt_cmp (pc_dnotin (hu_of hr) (pv 6) (pv 3))) (pss_cons (ps_dput (hu_of hr) (pv 3) (pv 6) (pv 5) rfl)
    (pss_one (ps_expr (pe_bmK K rfl PySem.F.plainAttrs_list PySem.F.slot_list_append PySem.F.type_list_append mt_append (pv 4) (pa_cons (pv 6) pa_nil))))) pss_nil))))))
    (pss_one (ps_ret (pv 3)))))), ?_⟩
  obtain ⟨v0, v1, v2, rfl, d0, d1, d2⟩ : ∃ v0 v1 v2, vs = [v0, v1, v2] ∧ Dq K H v0 (dMt M) ∧ Dq K H v1 (dMo os) ∧ Dq K H v2 (dNd x) := by
    cases hv with
    | cons a t => cases t with
      | cons b t => cases t with
        | cons c t => cases t; exact ⟨_, _, _, rfl, a, b, c⟩
  have S : Sl K H _ [.v v0, .v v1, .v v2, .no, .no, .no, .no] := sl_vals (vs := [v0, v1, v2]) n_reached_from
  refine s_asgDisp (H0 := H) (x := x) (e_varB rfl d2) e_non (Ex.refl H) S fun σ1 H1 p hp e1 D1 S1 => ?_
  refine s_asgL (H0 := H) (ds := [dNd x]) (l_lst (a_cons (e_varB rfl d2) a_nil) (by simp)) e1 S1 fun σ2 H2 q qs hq e2 hq2 hqs S2 => ?_
  have hqp : q ≠ p := by
    intro e
    subst e
    obtain ⟨kvs, g, _⟩ := D1
    rw [hq] at g
    cases g
  have hqH : H q = none := fresh_back e1 hq
  have hpH : H p = none := hp
  have all0 : ∀ y ∈ ([(x, none)] : List Ent).map (·.1), y ∈ allN := by
    intro y hy
    have : y = x := by simpa using hy
    rw [this, mem_allN]
    exact hpre.st
  refine s_while (K := K) (fun m σ' H' => ∃ dn ws es xs, m = 12 - dn.length ∧ Ex H H' ∧ Sl K H' σ' [.v v0, .v v1, .v v2, .v (.ref p), .v (.ref q), .no, .no] ∧ Di K H' p es ∧ H' q = some (.lst xs) ∧ DqAll K H' xs (ws.map dNd) ∧ Bf M os x dn ws es) 12
    ⟨[], [x], [(x, none)], qs, rfl, e1.trans e2, S2, D1.xx e2, hq2, hqs, ⟨rfl, Tree.one x, (fun a ha => absurd ha (by simp)), all0⟩⟩ ?_
  rintro m σ' H' ⟨dn, ws, es, xs, rfl, ex, S', D', hq', hws, B⟩
  refine ⟨H', _, _, Ex.refl _, S', b_test (e_neD (e_varB (v := .ref q) rfl (Dq.lst hq' hws)) (l_lst a_nil (by simp)).eh (shaped_lnd ws) rfl), fun H3 e3 S3 => ⟨fun b => ?_, fun b => ?_⟩⟩
  · rw [eqv_emptyL] at b
    cases ws with
    | nil => simp at b
    | cons here ws =>
      cases hws with
      | @cons y ys _ _ hy hys =>
        have D3 := D'.xx e3
        have hq3 : H3 q = some (.lst (y :: ys)) := e3 _ _ hq'
        refine s_pop0 (d := dNd here) rfl hq3 (dp_ex e3 _ _ hy) (tuO_nd here) S3 rfl fun σ4 tx4 S4 => ?_
        have ex4 : Ex H (upd H3 q (.lst ys)) := Ex.mut (ex.trans e3) hqH
        have D4 : Di K (upd H3 q (.lst ys)) p es := D3.tx tx4 fun kvs z => by rw [upd_ne hqp.symm]; exact z
        have hys4 : DqAll K (upd H3 q (.lst ys)) ys (ws.map dNd) := dps_tx tx4 _ _ (tuOs_map _ tuO_nd ws) (dps_ex e3 _ _ hys)
        have hq4 : (upd H3 q (.lst ys)) q = some (.lst ys) := upd_same
        generalize upd H3 q (.lst ys) = H4 at *
        have hlen : es.length ≤ 12 := keys_le B.tree.nd B.all
        have hk := congrArg List.length B.keys
        rw [List.length_map, List.length_append, List.length_cons] at hk
        -- the turns of the for
        refine s_forLE (ds := (succs M os here).map dNd) (fun r _ H5 => H4 r = none ∧ Ex H4 H5) (fun Q q => (l_call (M, os, here) (a_cons (e_varB rfl d0) (a_cons (e_varB rfl d1) (a_cons (e_var rfl) a_nil))) ⟨hpre.inn, hpre.len⟩) _ H4 ex4 S4 _ fun r xs H5 hr e5 h1 h2 => q r xs H5 ⟨hr, e5⟩ h1 h2) (tuOs_map _ tuO_nd _) ?_
        rintro r rs H5 ⟨hr5, e5⟩ hr hrd
        have hrq : r ≠ q := by rintro rfl; rw [hr5] at hq4; cases hq4
        have hrp : r ≠ p := by
          rintro rfl
          obtain ⟨kvs, g, _⟩ := D4
          rw [hr5] at g
          cases g
        refine ⟨fun i σ6 H6 => ∃ ws6 es6 ys6, Ex H H6 ∧ Tx K H5 H6 ∧ H6 r = some (.lst rs) ∧ Sl K H6 σ6 [.v v0, .v v1, .v v2, .v (.ref p), .v (.ref q), .d (dNd here), .no] ∧ Di K H6 p es6 ∧ H6 q = some (.lst ys6) ∧ DqAll K H6 ys6 (ws6.map dNd) ∧
            es6.map (·.1) = (dn ++ [here]) ++ ws6 ∧ Tree (Edge M os) x es6 ∧ (∀ a ∈ es.map (·.1), a ∈ es6.map (·.1)) ∧ (∀ a ∈ es6.map (·.1), a ∈ allN) ∧ ∀ b ∈ (succs M os here).take i, b ∈ es6.map (·.1), ?_, ?_, ?_, ?_⟩
        · exact ⟨ws, es, ys, ex4.trans e5, Tx.refl _, hr, S4.ex e5, D4.xx e5, e5 _ _ hq4, dps_ex e5 _ _ hys4, by rw [B.keys]; simp, B.tree, fun a h => h, B.all, fun b h => by simp at h⟩
        · rintro i σ6 H6 ⟨ws6, es6, ys6, h1, h2, h3, _⟩
          exact ⟨h2, h3⟩
        · rintro i d v σ6 H6 hd ⟨ws6, es6, ys6, ex6, tx6, hr6, S6, D6, hq6, hys6, keys6, tree6, sub6, all6, done6⟩ hv6
          obtain ⟨there, hth, rfl⟩ : ∃ th, (succs M os here)[i]? = some th ∧ d = dNd th := by
            rw [List.getElem?_map] at hd
            cases hz : (succs M os here)[i]? with
            | none => rw [hz] at hd; cases hd
            | some th => rw [hz] at hd; exact ⟨th, rfl, (Option.some.inj hd).symm⟩
          have edge : Edge M os here there := mem_succs.mp (List.mem_of_getElem? hth)
          have hmem : here ∈ es6.map (·.1) := sub6 _ (by rw [B.keys]; simp)
          have tk : ∀ b, b ∈ (succs M os here).take (i + 1) → b ∈ (succs M os here).take i ∨ b = there := fun b hb => by
            rw [List.take_add_one, hth, Option.toList_some, List.mem_append, List.mem_singleton] at hb
            exact hb
          refine tg_name v σ6 H6 _ hv6 S6 fun σ7 S7 _ => ?_
          have len6 : es6.length ≤ 12 := keys_le tree6.nd all6
          have weak : ∀ {H' : Hp} {σ' : Sg}, Sl K H' σ' [.v v0, .v v1, .v v2, .v (.ref p), .v (.ref q), .d (dNd here), .d (dNd there)] → Sl K H' σ' [.v v0, .v v1, .v v2, .v (.ref p), .v (.ref q), .d (dNd here), .no] := fun S => S.weak rfl fun i e z => by
            match i, z with
            | 0, z => exact .inl z
            | 1, z => exact .inl z
            | 2, z => exact .inl z
            | 3, z => exact .inl z
            | 4, z => exact .inl z
            | 5, z => exact .inl z
            | 6, z => exact .inr (Option.some.inj z).symm
          refine s_ifL (H0 := H6) (b_B (e_dnotin rfl D6 (e_var rfl))) (Ex.refl _) S7 (fun hb H8 e8 S8 => ?_) (fun hb H8 e8 S8 => ?_)
          · have hl : look es6 there = none := by
              cases hz : look es6 there with
              | none => rfl
              | some o => rw [hz] at hb; cases hb
            refine s_dput (H0 := H8) rfl (D6.xx e8) (e_var rfl) (e_var rfl) hl (by omega) (Ex.refl _) S8 rfl fun H9 H10 o e9 h10 tx10 S10 D10 => ?_
            have ex9 : Ex H H9 := (ex6.trans e8).trans e9
            have ex10 : Ex H H10 := by rw [h10]; exact Ex.mut ex9 hpH
            have hq10 : H10 q = some (.lst ys6) := by rw [h10, upd_ne hqp]; exact (e8.trans e9) _ _ hq6
            have hr10 : H10 r = some (.lst rs) := by rw [h10, upd_ne hrp]; exact (e8.trans e9) _ _ hr6
            have ly := dps_len hys6
            rw [List.length_map] at ly
            have hk6 := congrArg List.length keys6
            simp only [List.length_map, List.length_append, List.length_cons, List.length_nil] at hk6
            refine s_appL (H0 := H10) (e_var rfl) (Ex.refl _) S10 rfl hq10 (by omega) fun H11 y11 e11 hy11 S11 => ?_
            have hq11 : H11 q = some (.lst ys6) := e11 _ _ hq10
            have tx12 : Tx K H11 (upd H11 q (.lst (ys6 ++ [y11]))) := Tx.upd (noT_lst hq11)
            have hnew : there ∉ es6.map (·.1) := look_none.mp hl
            refine ⟨ws6 ++ [there], es6 ++ [(there, some here)], ys6 ++ [y11], Ex.mut (ex10.trans e11) hqH, tx6.trans ((Tx.of (e8.trans e9)).trans (tx10.trans ((Tx.of e11).trans tx12))), ?_, weak (S11.tx rfl tx12), (D10.xx e11).tx tx12 (fun kvs z => by rw [upd_ne hqp.symm]; exact z), upd_same, ?_, ?_, tree6.snoc hnew hmem edge, ?_, ?_, ?_⟩
            · rw [upd_ne hrq]; exact e11 _ _ hr10
            · rw [List.map_append]
              refine dps_app (dps_tx (((Tx.of (e8.trans e9)).trans tx10).trans ((Tx.of e11).trans tx12)) _ _ (tuOs_map _ tuO_nd ws6) hys6) (.cons (dp_tx tx12 _ _ (tuO_nd there) hy11) .nil)
            · rw [List.map_append, keys6]
              simp
            · intro a ha
              rw [List.map_append, List.mem_append]
              exact .inl (sub6 a ha)
            · intro a ha
              rw [List.map_append, List.mem_append] at ha
              rcases ha with ha | ha
              · exact all6 a ha
              · have : a = there := by simpa using ha
                rw [this]
                exact hpre.succ edge
            · intro b hb'
              rw [List.map_append, List.mem_append]
              rcases tk b hb' with z | z
              · exact .inl (done6 b z)
              · exact .inr (by simp [z])
          · have hin : there ∈ es6.map (·.1) := by
              apply Classical.byContradiction
              intro z
              rw [look_none.mpr z] at hb
              cases hb
            exact ⟨ws6, es6, ys6, ex6.trans e8, tx6.trans (Tx.of e8), e8 _ _ hr6, weak S8, D6.xx e8, e8 _ _ hq6, dps_ex e8 _ _ hys6, keys6, tree6, sub6, all6, fun b hb' => by
              rcases tk b hb' with z | z
              · exact done6 b z
              · rw [z]; exact hin⟩
        · rintro σ6 H6 ⟨ws6, es6, ys6, ex6, tx6, hr6, S6, D6, hq6, hys6, keys6, tree6, sub6, all6, done6⟩
          rw [List.length_map, List.take_length] at done6
          refine ⟨12 - (dn ++ [here]).length, by rw [List.length_append]; simp; omega, dn ++ [here], ws6, es6, ys6, rfl, ex6, S6.weak rfl fun i e z => ?_, D6, hq6, hys6, ⟨keys6, tree6, fun a ha c hc => ?_, all6⟩⟩
          · match i, z with
            | 0, z => exact .inl z
            | 1, z => exact .inl z
            | 2, z => exact .inl z
            | 3, z => exact .inl z
            | 4, z => exact .inl z
            | 5, z => exact .inr (Option.some.inj z).symm
            | 6, z => exact .inr (Option.some.inj z).symm
          · rcases List.mem_append.mp ha with z | z
            · exact sub6 _ (B.cl a z c hc)
            · have : a = here := by simpa using z
              subst this
              exact done6 c (mem_succs.mpr hc)
  · rw [eqv_emptyL] at b
    cases ws with
    | cons here ws => simp at b
    | nil =>
      refine ⟨_, S3.val rfl, k p es H3 hpH (ex.trans e3) (D'.xx e3) B.tree fun a b ha hb => B.cl a ?_ b hb⟩
      rw [B.keys, List.append_nil] at ha
      exact ha
/-! the road back -/
def spRoad (K : PySem.W.Frag) : Sp := fun vs H Q _ => ∃ (p : Addr) (v : V) (es : List Ent) (x : Nd) (L : List Stp), vs = [.ref p, v] ∧ Dq K H v (dNd x) ∧ Di K H p es ∧ Rd es x L ∧ L.length ≤ 100 ∧
  ∀ r xs H', H r = none → Ex H H' → H' r = some (.lst xs) → DqAll K H' xs (L.map dStp) → Q (.ref r) H'
theorem ok_road_to (F : Fn K mg "road_to" s_road_to p_road_to) (T : Tx0 K mg) : Ca P w K mg base "road_to" 1 p_road_to (spRoad K) := by
  refine F.ca sc_road_to (fun vs H Q E h => by obtain ⟨p, v, es, x, L, rfl, _⟩ := h; rfl) (fun f cdv A outer s H vs Q E hr h => ?_)
  obtain ⟨p, v, es, x, L, rfl, hx, hD, hRd, hL, k⟩ := h
  have nd := sc_road_to.nd
  refine ⟨_, (pss_cons (ps_set (i := 2) nd rfl (Or.inl rfl) (pe_lst pa_nil))
    (pss_cons (ps_while PassesOwn.never (pt_cmpR op_notN (pe_dget (hu_of hr) (pv 0) (pv 1) (fun _ _ => rfl)) pe_non (nomark _)) (pss_cons (ps_set (i := 3) nd rfl (Or.inl rfl) (pe_dget (hu_of hr) (pv 0) (pv 1) (fun _ _ => rfl)))
    (pss_cons (ps_if (pt_cmpR op_eq (pe_ix (ix_tupK K rfl) (pv 1) pe_int (fun _ _ => rfl)) pe_str (nomark _)) (pss_one (ps_expr (pe_bmK K rfl PySem.F.plainAttrs_list PySem.F.slot_list_append PySem.F.type_list_append mt_append (pv 2) (pa_cons (pe_tup (pa_cons (pe_ix (ix_tupK K rfl) (pv 3) pe_int (fun _ _ => rfl)) (pa_cons (pe_ix (ix_tupK K rfl) (pv 1) pe_int (fun _ _ => rfl)) (pa_cons pe_int pa_nil)))) pa_nil)))) (pss_one (ps_expr (pe_bmK K rfl PySem.F.plainAttrs_list PySem.F.slot_list_append PySem.F.type_list_append mt_append (pv 2) (pa_cons (pe_tup (pa_cons (pe_ix (ix_tupK K rfl) (pv 1) pe_int (fun _ _ => rfl)) (pa_cons (pe_ix (ix_tupK K rfl) (pv 3) pe_int (fun _ _ => rfl)) (pa_cons (pe_un un_neg pe_int) pa_nil)))) pa_nil)))))
    (pss_one (ps_set (i := 1) nd rfl (Or.inl rfl) (pv 3))))))
    (pss_one (ps_ret (pv 2))))), ?_⟩
  have S : Sl K H _ [.v (.ref p), .v v, .no, .no] := sl_vals (vs := [.ref p, v]) n_road_to
  refine s_asgL (H0 := H) (ds := []) (l_lst a_nil (by simp)) (Ex.refl _) S fun σ2 H2 q qs hq e2 hq2 hqs S2 => ?_
  refine s_while (K := K) (fun m σ' H' => ∃ acc rest y xs, m = rest.length ∧ L = acc ++ rest ∧ Rd es y rest ∧ Ex H H' ∧ Sl K H' σ' [.v (.ref p), .d (dNd y), .v (.ref q), .no] ∧ H' q = some (.lst xs) ∧ DqAll K H' xs (acc.map dStp)) L.length ⟨[], L, x, qs, rfl, rfl, hRd, e2, ?_, hq2, hqs⟩ ?_
  · have S3 : Sl K H2 σ2 [.v (.ref p), .v v, .v (.ref q), .no] := S2
    refine ⟨S3.len, fun i e z => ?_⟩
    match i, z with
    | 0, z => exact S3.get 0 e z
    | 1, z =>
      cases z
      exact ⟨v, S3.val rfl, dp_ex e2 _ _ hx⟩
    | 2, z => exact S3.get 2 e z
    | 3, z => exact S3.get 3 e z
  rintro m σ' H' ⟨acc, rest, y, xs, rfl, eL, hR, ex, S', hq', hxs⟩
  have D' : Di K H' p es := hD.xx ex
  cases hR with
  | root hl =>
    refine ⟨H', _, _, Ex.refl _, S', b_test ((e_isN (e_dget rfl D' (e_var rfl) hl) (.inl rfl) e_non).to rfl), fun H3 e3 S3 => ⟨(fun b => nomatch b), fun _ => ?_⟩⟩
    rw [List.append_nil] at eL
    subst eL
    exact ⟨_, S3.val rfl, k q xs H3 hq (ex.trans e3) (e3 _ _ hq') (dps_ex e3 _ _ hxs)⟩
  | @step _ a rest hl hR =>
    refine ⟨H', _, _, Ex.refl _, S', b_test ((e_isN (e_dget rfl D' (e_var rfl) hl) (.inr ⟨_, rfl⟩) e_non).to rfl), fun H3 e3 S3 => ⟨fun _ => ?_, (fun b => nomatch b)⟩⟩
    refine s_asg (H0 := H3) (e_dget rfl (D'.xx e3) (e_var rfl) hl) (Ex.refl _) S3 fun σ4 H4 e4 S4 => ?_
    have hq4 : H4 q = some (.lst xs) := (e3.trans e4) _ _ hq'
    have hxs4 := dps_ex (e3.trans e4) _ _ hxs
    have ex4 := ex.trans (e3.trans e4)
    have lx := dps_len hxs
    have lL := congrArg List.length eL
    rw [List.length_map] at lx
    rw [List.length_append, List.length_cons] at lL
    have last : ∀ (H5 : Hp) (y5 : V), Ex H4 H5 → Dq K H5 y5 (dStp (stp a y)) → Sl K H5 σ4 [.v (.ref p), .d (dNd y), .v (.ref q), .d (dNd a)] → tAsg (tVar 3) (gName 1) { nx := fun σ2 H2 => ∃ m', m' < (stp a y :: rest).length ∧ ∃ acc rest y xs, m' = rest.length ∧ L = acc ++ rest ∧ Rd es y rest ∧ Ex H H2 ∧ Sl K H2 σ2 [.v (.ref p), .d (dNd y), .v (.ref q), .no] ∧ H2 q = some (.lst xs) ∧ DqAll K H2 xs (acc.map dStp), rt := Q } σ4 (upd H5 q (.lst (xs ++ [y5]))) := by
      intro H5 y5 e5 hy5 S5
      have hq5 : H5 q = some (.lst xs) := e5 _ _ hq4
      have tx6 : Tx K H5 (upd H5 q (.lst (xs ++ [y5]))) := Tx.upd (noT_lst hq5)
      have S6 := S5.tx rfl tx6
      obtain ⟨u, hu, hu2⟩ := S6.dat (i := 3) rfl
      refine ⟨u, hu, rest.length, by simp, acc ++ [stp a y], rest, a, _, rfl, by rw [eL]; simp, hR, Ex.mut (ex4.trans e5) hq, (S6.setD (i := 1) hu2).weak rfl fun i e z => ?_, upd_same, ?_⟩
      · match i, z with
        | 0, z => exact .inl z
        | 1, z => exact .inl z
        | 2, z => exact .inl z
        | 3, z => exact .inr (Option.some.inj z).symm
      · rw [List.map_append]
        exact dps_app (dps_tx tx6 _ _ (tuOs_map _ tuO_stp acc) (dps_ex e5 _ _ hxs4)) (.cons (dp_tx tx6 _ _ (tuO_stp _) hy5) .nil)
    refine s_if (H0 := H4) (b_test (e_eqS (e_ixT (e_var rfl) e_int at0) e_str)) (Ex.refl _) S4 (fun b H5 e5 S5 => ?_) (fun b H5 e5 S5 => ?_)
    · cases y with
      | row i => exact absurd b w_rc
      | col j =>
        exact s_appL (H0 := H5) (d := dStp (stp a (.col j))) (e_tup (a_cons (e_ixT (e_var rfl) e_int at1) (a_cons (e_ixT (e_var rfl) e_int at1) (a_cons e_int a_nil))) (by simp)) (Ex.refl _) S5 rfl (e5 _ _ hq4) (by omega) fun H6 y6 e6 hy6 S6 => last H6 y6 (e5.trans e6) hy6 S6
    · cases y with
      | col j => exact absurd b w_cc
      | row i =>
        exact s_appL (H0 := H5) (d := dStp (stp a (.row i))) (e_tup (a_cons (e_ixT (e_var rfl) e_int at1) (a_cons (e_ixT (e_var rfl) e_int at1) (a_cons (e_neg e_int) a_nil))) (by simp)) (Ex.refl _) S5 rfl (e5 _ _ hq4) (by omega) fun H6 y6 e6 hy6 S6 => last H6 y6 (e5.trans e6) hy6 S6
end
end Ak
set_option Elab.async false
set_option linter.all false
set_option maxRecDepth 100000
set_option maxHeartbeats 4000000
/-! AkF3: the leading round. -/
namespace Ak
open PySem PySem.Spec PyProof.Rows L2 Evl
/-- a table of lists, at tb, its rows at ras -/
structure MutT (H : Hp) (tb : Addr) (ras : List Addr) (T : Tab) : Prop where
  top : H tb = some (.lst (ras.map V.ref))
  nd : ras.Nodup
  out : tb ∉ ras
  len : ras.length = T.length
  row : ∀ (i : Nat) (r : Addr), ras[i]? = some r → H r = some (.lst ((T.getD i []).map V.int))
section
variable {P : Program} {w : World} {K : PySem.W.Frag} {mg : Str → Option Value} {base : Heap} {H0 : Hp} {Γ : Env1} {ta tb te : TE} {d : PyData}
theorem MutT.ex {H H' : Hp} {tb : Addr} {ras : List Addr} {T : Tab} (m : MutT H tb ras T) (e : Ex H H') : MutT H' tb ras T := ⟨e _ _ m.top, m.nd, m.out, m.len, fun i r h => e _ _ (m.row i r h)⟩
theorem MutT.dq {H : Hp} {tb : Addr} {ras : List Addr} {T : Tab} (m : MutT H tb ras T) : Dq K H (.ref tb) (dMt T) := by
  refine .lst m.top ?_
  have go : ∀ (rs : List Addr) (S : Tab), rs.length = S.length → (∀ (i : Nat) (r : Addr), rs[i]? = some r → H r = some (.lst ((S.getD i []).map V.int))) → DqAll K H (rs.map V.ref) (S.map fun r => .list (r.map .int)) := by
    intro rs
    induction rs with
    | nil =>
      intro S hl _
      cases S with
      | nil => exact .nil
      | cons _ _ => simp at hl
    | cons r rs ih =>
      intro S hl h
      cases S with
      | nil => simp at hl
      | cons s S =>
        refine .cons (.lst (h 0 r rfl) (ints_dps s)) (ih S (by simpa using hl) fun i r' hr => ?_)
        have := h (i + 1) r' (by simpa using hr)
        simpa using this
  exact go ras T m.len m.row
theorem MutT.set {H : Hp} {tb : Addr} {ras : List Addr} {T : Tab} (m : MutT H tb ras T) {p : Pl} {r : Addr} (hr : ras[p.1]? = some r) (x : Int) : MutT (upd H r (.lst (((T.getD p.1 []).set p.2 x).map V.int))) tb ras (setT T p x) := by
  have mem : r ∈ ras := List.mem_of_getElem? hr
  have lt : p.1 < T.length := by
    have := (List.getElem?_eq_some_iff.mp hr).1
    have := m.len
    omega
  refine ⟨by rw [upd_ne (show tb ≠ r from fun z => m.out (by rw [z]; exact mem))]; exact m.top, m.nd, m.out, by rw [m.len]; simp [setT], fun i r' hr' => ?_⟩
  by_cases e : p.1 = i
  · subst e
    rw [hr] at hr'
    cases hr'
    rw [upd_same]
    unfold setT
    rw [getD_set_self _ _ _ _ lt]
  · have ne : r' ≠ r := by
      rintro rfl
      obtain ⟨l1, e1⟩ := List.getElem?_eq_some_iff.mp hr
      obtain ⟨l2, e2⟩ := List.getElem?_eq_some_iff.mp hr'
      exact e ((List.getElem_inj m.nd).mp (e1.trans e2.symm))
    rw [upd_ne ne]
    unfold setT
    rw [getD_set_ne _ _ _ e]
    exact m.row i r' hr'
theorem MutT.at {H : Hp} {tb : Addr} {ras : List Addr} {T : Tab} (m : MutT H tb ras T) {p : Pl} (h : inT T p) : ∃ r, ras[p.1]? = some r ∧ H r = some (.lst ((T.getD p.1 []).map V.int)) := by
  have lt : p.1 < ras.length := by rw [m.len]; exact h.1
  exact ⟨ras[p.1], List.getElem?_eq_getElem lt, m.row _ _ (List.getElem?_eq_getElem lt)⟩
/-- [list(row) for row in counts] -/
theorem lc_rows {C : Tab} {wi : TI} {g : TG} {vs js : List Nat} (Γ' : List Int → Env1) (hi : Ih K H0 Γ wi (C.map dRow)) (hz : C.length ≤ 40000) (hj : ∀ j ∈ js, j ∈ vs)
    (hg : ∀ y ∈ C, Tg K g (dRow y) (wipeG Γ vs) (Γ' y) js) (he : ∀ y ∈ C, Lh K H0 (Γ' y) te (y.map .int)) {σ : Sg} {H : Hp} (e0 : Ex H0 H) (s : Sl K H σ Γ) (Q : VK)
    (k : ∀ tb ras H1, Ex H H1 → H tb = none → (∀ r ∈ ras, H r = none) → MutT H1 tb ras C → Q (.ref tb) H1) : tLc wi g tYes te vs σ H Q := by
  refine hi σ H e0 s _ fun J H1 e1 W => ?_
  intro D hD
  have ln : (C.map dRow).length = C.length := List.length_map ..
  let Pv : Nat → Hp → Prop := fun i H' => Ex H1 H' ∧ ∃ ras, (∀ r ∈ ras, H1 r = none) ∧ MutT H' D ras (C.take i)
  refine ⟨fun i m H' => m = C.length - i ∧ i ≤ C.length ∧ Pv i H', ⟨C.length, by simp, Nat.zero_le _, Ex.new hD, [], (fun r h => absurd h (by simp)), ⟨upd_same, by simp, by simp, by simp, fun i r h => by simp at h⟩⟩, ?_⟩
  rintro i m H' ⟨rfl, hle, ex, ras, hfr, M⟩
  by_cases hlt : i < C.length
  · refine .inr ⟨W.go i H' (by omega) ex, Pv (i + 1), fun H'' h => ⟨C.length - (i + 1), by omega, rfl, hlt, h⟩, fun x H2 y => ?_⟩
    have hy : C[i]? = some C[i] := List.getElem?_eq_getElem hlt
    obtain ⟨e2, hx⟩ := W.yld i H' x H2 ex y (dRow C[i]) (by rw [List.getElem?_map, hy]; rfl)
    have mem : C[i] ∈ C := List.getElem_mem hlt
    have ex2 := ex.trans e2
    refine hg _ mem x _ H2 _ hx ((s.ex (e1.trans ex2)).wipe vs) fun σ' s' hw => ⟨(hw vs hj).trans wipe_wipe, ?_⟩
    show te σ' H2 _
    refine he _ mem σ' H2 ((e0.trans e1).trans ex2) s' _ fun r xs H4 hr e4 h4 d4 => ?_
    have M4 := (M.ex e2).ex e4
    have lr : ras.length = i := by rw [M.len, List.length_take]; omega
    rw [dps_ints d4] at h4
    have hDr : r ≠ D := by
      rintro rfl
      have h5 := (M.ex e2).top
      rw [hr] at h5
      cases h5
    have hrn : r ∉ ras := fun z => by
      obtain ⟨k', hk', e⟩ := List.mem_iff_getElem.mp z
      have h5 := (M.ex e2).row k' r (by rw [List.getElem?_eq_getElem hk', e])
      rw [hr] at h5
      cases h5
    refine ⟨ras.map V.ref, M4.top, sz_lt (by rw [List.length_map, lr]; omega), Ex.mut (ex2.trans e4) hD, ras ++ [r], fun r' h => ?_, ⟨?_, ?_, ?_, ?_, fun j r' hj' => ?_⟩⟩
    · rcases List.mem_append.mp h with z | z
      · exact hfr _ z
      · rw [List.mem_singleton.mp z]
        exact fresh_back ex2 hr
    · rw [List.map_append]; exact upd_same
    · rw [List.nodup_append]
      refine ⟨M.nd, by simp, fun a ha b hb => ?_⟩
      rw [List.mem_singleton.mp hb]
      exact fun z => hrn (z ▸ ha)
    · rw [List.mem_append, not_or]
      exact ⟨M.out, fun z => hDr (List.mem_singleton.mp z).symm⟩
    · rw [List.length_append, lr, List.length_take]
      simp
      omega
    · have hr'D : r' ≠ D := by
        rintro rfl
        rcases List.mem_append.mp (List.mem_of_getElem? hj') with z | z
        · exact M.out z
        · exact hDr (List.mem_singleton.mp z).symm
      rw [upd_ne hr'D]
      by_cases hji : j < i
      · rw [List.getElem?_append_left (by omega)] at hj'
        have h6 := M4.row j r' hj'
        rw [h6, List.getD_eq_getElem?_getD, List.getD_eq_getElem?_getD, List.getElem?_take, List.getElem?_take, if_pos hji, if_pos (by omega)]
      · rw [List.getElem?_append_right (by omega), lr] at hj'
        have hj0 : j = i := by
          have := (List.getElem?_eq_some_iff.mp hj').1
          simp at this
          omega
        subst hj0
        simp only [Nat.sub_self, List.getElem?_cons_zero, Option.some.injEq] at hj'
        subst hj'
        rw [h4, List.getD_eq_getElem?_getD, List.getElem?_take, if_pos (by omega), hy]
        rfl
  · have e : i = C.length := by omega
    subst e
    refine .inl ⟨ln ▸ W.stop H' ex, ?_⟩
    rw [List.take_length] at M
    exact k D ras H' (e1.trans ex) (fresh_back e1 hD) (fun r h => fresh_back e1 (hfr r h)) M
theorem s_asgRows {C : Tab} {wi : TI} {g : TG} {vs js : List Nat} {i : Nat} {tz : TS} {D : Ends} (Γ' : List Int → Env1) (hi : Ih K H0 Γ wi (C.map dRow)) (hz : C.length ≤ 40000) (hj : ∀ j ∈ js, j ∈ vs)
    (hg : ∀ y ∈ C, Tg K g (dRow y) (wipeG Γ vs) (Γ' y) js) (he : ∀ y ∈ C, Lh K H0 (Γ' y) te (y.map .int)) {σ : Sg} {H : Hp} (e0 : Ex H0 H) (s : Sl K H σ Γ)
    (k : ∀ σ' tb ras H1, Ex H H1 → H tb = none → (∀ r ∈ ras, H r = none) → MutT H1 tb ras C → Sl K H1 σ' (Γ.set i (.v (.ref tb))) → tz D σ' H1) : tSeq (tAsg (tLc wi g tYes te vs) (gName i)) tz D σ H :=
  lc_rows Γ' hi hz hj hg he e0 s (fun v H1 => gName i v σ H1 (tz D)) fun tb ras H1 e1 h1 h2 M => k _ tb ras H1 e1 h1 h2 M ((s.ex e1).setV)
/-- l[::-1] -/
theorem l_rev {ds : List PyData} (h : Eh K H0 Γ te (.list ds)) : Lh K H0 Γ (tRevL K te) ds.reverse := fun σ H e0 s Q q => h σ H e0 s _ fun v H1 e1 h1 => by
  obtain ⟨p, xs, rfl, h3, h4⟩ := dp_lst h1
  have rev : ∀ {xs : List V} {ds : List PyData}, DqAll K H1 xs ds → DqAll K H1 xs.reverse ds.reverse := by
    intro xs ds h
    induction ds generalizing xs with
    | nil => cases h; exact .nil
    | cons d ds ih =>
      cases h with
      | cons a t =>
        rw [List.reverse_cons, List.reverse_cons]
        exact dps_app (ih t) (.cons a .nil)
  exact ⟨p, xs, rfl, SqL.of h3, fun r hr => q _ _ _ (fresh_back e1 hr) (e1.trans (Ex.new hr)) upd_same (dps_ex (Ex.new hr) _ _ (rev h4))⟩
theorem p_min {ns : List Int} (h : Eh K H0 Γ te (.list (ns.map .int))) (hne : 0 < ns.length) : Ph K H0 Γ (tCB (rMin K) (tCons te tNil)) (fun d => ∃ m, d = .int m ∧ m ∈ ns ∧ ∀ y ∈ ns, m ≤ y) := fun σ H e0 s Q q => h σ H e0 s _ fun v H1 e1 h1 => by
  obtain ⟨p, xs, rfl, h3, h4⟩ := dp_lst h1
  rw [dps_ints h4] at h3
  exact ⟨p, ns, rfl, SqL.of h3, hne, fun m hm hy => q _ _ H1 e1 (.int m) ⟨m, rfl, hm, hy⟩⟩
theorem l_road {E : XK} {n : Nat} {q : Addr} {es : List Ent} {x : Nd} {L : List Stp} (hn : Γ[n]? = some (.v (.ref q))) (D : Di K H0 q es) (h : Eh K H0 Γ te (dNd x)) (hR : Rd es x L) (hL : L.length ≤ 100) : Lh K H0 Γ (tCall (spRoad K) [] E (tCons (tVar n) (tCons te tNil))) (L.map dStp) := fun σ H e0 s Q k =>
  ⟨_, s.val hn, h σ H e0 s _ fun v H1 e1 h1 => ⟨q, v, es, x, L, rfl, h1, (D.xx e0).xx e1, hR, hL, fun r xs H2 hr e2 h2 h3 => k r xs H2 (fresh_back e1 hr) (e1.trans e2) h2 h3⟩⟩
/-- table[row][column] += by * pence -/
theorem s_aug {σ : Sg} {H : Hp} {D : Ends} {nt ni nj : Nat} {tbA : Addr} {ras : List Addr} {T : Tab} {z : Stp} {k : Int} (hn : Γ[nt]? = some (.v (.ref tbA))) (M : MutT H tbA ras T) (hp : inT T (splc z)) (hi : Eh K H Γ (tVar ni) (.int (z.1 : Nat))) (hj : Eh K H Γ (tVar nj) (.int (z.2.1 : Nat))) (he : Eh K H Γ te (.int (sby z * k))) (s : Sl K H σ Γ) (ok : Γ.all En.ok = true)
    (kk : ∀ H1 r, Ex H H1 → ras[z.1]? = some r → (∀ o, Tx K H1 (upd H1 r o)) → ∀ o, MutT (upd H1 r o) tbA ras (augS T k z) → Sl K (upd H1 r o) σ Γ → D.nx σ (upd H1 r o)) : tAugS (tOp (rIxL K) (tVar nt) (tVar ni)) (tVar nj) te (rGetL K) (ipI fun i j => i + j) rSetL D σ H := by
  obtain ⟨r, hr, hrow⟩ := M.at hp
  refine ⟨_, s.val hn, hi σ H (Ex.refl _) s _ fun v1 H1 e1 h1 => ?_⟩
  have M1 := M.ex e1
  refine ⟨tbA, _, _, .ref r, rfl, dp_int h1, SqL.of M1.top, ?_, ?_⟩
  · refine atI_nat ?_
    rw [List.getElem?_map, show ras[z.1]? = some r from hr]
    rfl
  refine hj σ H1 e1 (s.ex e1) _ fun v2 H2 e2 h2 => ?_
  have e12 := e1.trans e2
  have M2 := M.ex e12
  have hr2 := e12 _ _ hrow
  have hlt : z.2.1 < (T.getD z.1 []).length := hp.2
  refine ⟨r, _, _, .int (tat T (splc z)), rfl, dp_int h2, SqL.of hr2, by omega, ?_, ?_⟩
  · show ((T.getD z.1 []).map V.int)[((z.2.1 : Nat) : Int).toNat]? = _
    rw [Int.toNat_natCast, List.getElem?_map, List.getElem?_eq_getElem hlt]
    unfold tat
    rw [List.getD_eq_getElem?_getD (l := T.getD (splc z).1 [])]
    show _ = some (V.int ((T.getD z.1 [])[z.2.1]?.getD 0))
    rw [List.getElem?_eq_getElem hlt]
    rfl
  refine he σ H2 e12 (s.ex e12) _ fun v3 H3 e3 h3 => ?_
  have e13 := e12.trans e3
  refine ⟨_, _, rfl, dp_int h3, r, _, _, z.2.1, rfl, dp_int h2, e13 _ _ hrow, ?_, ?_⟩
  · show ixN (((T.getD z.1 []).map V.int).length) ((z.2.1 : Nat) : Int) = some z.2.1
    unfold ixN
    rw [List.length_map]
    rw [List.getD_eq_getElem?_getD] at hlt
    simp [hlt]
  · have tx : ∀ o, Tx K H3 (upd H3 r o) := fun o => Tx.upd (noT_lst (e13 _ _ hrow))
    refine kk H3 r e13 hr tx _ ?_ ((s.ex e13).tx ok (tx _))
    have := (M.ex e13).set (p := splc z) hr (tat T (splc z) + sby z * k)
    rw [List.map_set] at this
    exact this
theorem s_via {σ : Sg} {H : Hp} {a tz : TS} {D : Ends} (Pq : Sg → Hp → Prop) (h1 : ∀ σ' H', Pq σ' H' → tz D σ' H') (h2 : ∀ D' : Ends, (∀ σ' H', Pq σ' H' → D'.nx σ' H') → a D' σ H) : tSeq a tz D σ H := h2 { D with nx := tz D } h1
theorem Sl.clr {H : Hp} {σ : Sg} (s : Sl K H σ Γ) (n : Nat) : Sl K H σ (Γ.set n .no) := s.weak (by simp) fun i e z => by
  by_cases q : n = i
  · subst q
    by_cases hl : n < Γ.length
    · rw [List.getElem?_set_self hl] at z
      exact .inr (Option.some.inj z).symm
    · rw [List.getElem?_eq_none (by rw [List.length_set]; omega)] at z
      cases z
  · rw [List.getElem?_set_ne q] at z
    exact .inl z
theorem MutT.some_at {H : Hp} {tb r : Addr} {ras : List Addr} {T : Tab} (m : MutT H tb ras T) (hr : r ∈ ras) : ∃ xs, H r = some (.lst xs) := by
  obtain ⟨i, hi, e⟩ := List.mem_iff_getElem.mp hr
  exact ⟨_, m.row i r (by rw [List.getElem?_eq_getElem hi, e])⟩
theorem MutT.not_in {H : Hp} {tb r : Addr} {ras : List Addr} {T : Tab} (m : MutT H tb ras T) (hr : H r = none) : r ∉ ras := fun z => by
  obtain ⟨xs, h⟩ := m.some_at z
  rw [hr] at h
  cases h
theorem s_asgReach {T : Tab} {os : List Pl} {x : Nd} {E : XK} {tr : TA} {i : Nat} {tz : TS} {D : Ends} {σ : Sg} {H : Hp} (h : Ah K H0 Γ tr [dMt T, dMo os, dNd x]) (pre : PreR T os x) (e0 : Ex H0 H) (s : Sl K H σ Γ)
    (k : ∀ σ' H1 q es, H q = none → Ex H H1 → Di K H1 q es → Tree (Edge T os) x es → Closed (Edge T os) es → Sl K H1 σ' (Γ.set i (.v (.ref q))) → tz D σ' H1) : tSeq (tAsg (tCall (spReach K) [] E tr) (gName i)) tz D σ H :=
  h σ H e0 s _ fun vs H1 e1 h1 => ⟨T, os, x, by rw [List.append_nil]; exact h1, pre, fun q es H2 hq e2 D2 t cl => k _ H2 q es (fresh_back e1 hq) (e1.trans e2) D2 t cl ((s.ex (e1.trans e2)).setV)⟩
/-- what a leading round has come to -/
structure Led (C : Tab) (hs : List Pl) (p : Pl) (less : Bool) (T : Tab) (es : List Ent) : Prop where
  feas : Feas C hs T
  cl : Closed (Edge T (hs.filter fun q => decide (q ≠ p))) es
  st : (endsOf less p).1 ∈ es.map (·.1)
  fin : (endsOf less p).2 ∉ es.map (·.1) ∨ (less = true ∧ tat T p = 0)
def spLed (K : PySem.W.Frag) : Sp := fun vs H Q _ => ∃ (C : Tab) (hs : List Pl) (p : Pl) (less : Bool), DqAll K H vs [dTab C, dHid hs, dPl p, .bool less] ∧ VC C ∧ VH C hs ∧ p ∈ hs ∧
  ∀ a t q T es H', Ex H H' → H' a = some (.tup [t, .ref q]) → Dq K H' t (dTab T) → Di K H' q es → Led C hs p less T es → Q (.ref a) H'
theorem head_mem {E : Nd → Nd → Prop} {s : Nd} {es : List Ent} (t : Tree E s es) : s ∈ es.map (·.1) := List.mem_map.mpr ⟨_, List.mem_of_getElem? t.head, rfl⟩
theorem endsOf_lt {C : Tab} {hs : List Pl} {p : Pl} (hC : VC C) (hH : VH C hs) (hp : p ∈ hs) (less : Bool) : (endsOf less p).1.ix < 6 := by
  have h1 := hH.inr p hp
  have h2 := hC.l6
  have h3 := hC.w6
  cases less
  · show p.2 < 6
    omega
  · show p.1 < 6
    omega
theorem preR_of {C T : Tab} {hs : List Pl} {p : Pl} {less : Bool} (hC : VC C) (hH : VH C hs) (hp : p ∈ hs) (F : Feas C hs T) : PreR T (hs.filter fun q => decide (q ≠ p)) (endsOf less p).1 := by
  have h2 := hC.l6
  have h3 := hC.w6
  refine ⟨fun q hq => (inT_shp F.shape q).mpr (hH.inT hC q (List.mem_filter.mp hq).1), ?_, fun q hq => ?_, endsOf_lt hC hH hp less⟩
  · have := List.length_filter_le (fun q => decide (q ≠ p)) hs
    have := hH.len hC
    omega
  · have := hH.inr q (List.mem_filter.mp hq).1
    omega
theorem sum_top {C : Tab} {hs : List Pl} (hC : VC C) (hH : VH C hs) : sumF hs (tat C) ≤ 36000000000 := by
  have h1 : sumF hs (tat C) ≤ sumF hs (fun _ => 1000000000) := sumF_le fun h hh => by
    obtain ⟨a, b⟩ := hH.inT hC h hh
    exact hC.top _ (getD_mem a _) _ (getD_mem b _)
  have h2 : ∀ ks : List Pl, sumF ks (fun _ => (1000000000 : Int)) = 1000000000 * (ks.length : Int) := by
    intro ks
    induction ks with
    | nil => rfl
    | cons a ks ih => rw [sumF_cons, ih, List.length_cons]; omega
  have h3 := hH.len hC
  rw [h2] at h1
  omega
theorem dps_2 {H : Hp} {xs : List V} {d e : PyData} (h : DqAll K H xs [d, e]) : ∃ x y, xs = [x, y] ∧ Dq K H x d ∧ Dq K H y e := by
  cases h with
  | cons a t => cases t with
    | cons b t => cases t; exact ⟨_, _, rfl, a, b⟩
theorem ok_led_round (F : Fn K mg "led_round" s_led_round p_led_round) (T : Tx0 K mg) (c_reached_from : Ca P w K mg base "reached_from" 2 p_reached_from (spReach K)) (c_road_to : Ca P w K mg base "road_to" 1 p_road_to (spRoad K)) : Ca P w K mg base "led_round" 3 p_led_round (spLed K) := by
  refine F.ca sc_led_round (fun vs H Q E h => by obtain ⟨C, hs, p, less, hv, _⟩ := h; exact dps_len hv) (fun f cdv A outer s H vs Q E hr h => ?_)
  obtain ⟨C, hs, p, less, hv, hC, hH, hp, k⟩ := h
  have nd := sc_led_round.nd
  have hlen : hs.length ≤ 36 := hH.len hC
  have hC6 := hC.l6
  have hpin : inT C p := hH.inT hC p hp
  refine ⟨_, (pss_cons (ps_set (i := 4) nd rfl (Or.inr rfl) (pe_lc (own := [("row", 10)]) rfl nd (pi_tupK K rfl (pv 0)) (blkOk_by (N := n_led_round) (sc := defScope s_led_round) (by decide +kernel)) (fun _ _ _ _ _ => (pg_name (i := 10) nd rfl (Or.inl rfl))) (fun _ _ _ _ _ => pts_nil) (fun _ _ _ _ _ => (pe_callTy (ck_listK K rfl) (by rfl) T.list_ (by decide +kernel) (pa_cons (pv 10) pa_nil)))))
    (pss_cons (ps_setLc (i := 5) (own := [("other", 11)]) rfl nd rfl rfl (sw_true rfl rfl rfl (by decide +kernel)) (pi_tupK K rfl (pv 1)) (blkOk_by (N := n_led_round) (sc := defScope s_led_round) (by decide +kernel)) (fun _ _ _ _ _ => (pg_name (i := 11) nd rfl (Or.inl rfl))) (fun _ _ _ _ _ => (pts_one (pt_cmpR (op_neDK K rfl hr.units) (pv 11) (pv 2) (nomark _)))) (fun _ _ _ _ _ => (pv 11)))
    (pss_cons (ps_set (i := 6) nd rfl (Or.inl rfl) (pe_lst (pa_cons (pe_tup (pa_cons pe_str (pa_cons (pe_ix (ix_tupK K rfl) (pv 2) pe_int (fun _ _ => rfl)) pa_nil))) (pa_cons (pe_tup (pa_cons pe_str (pa_cons (pe_ix (ix_tupK K rfl) (pv 2) pe_int (fun _ _ => rfl)) pa_nil))) pa_nil))))
    (pss_cons (ps_if (pt_not (pt_val (pv 3))) (pss_one (ps_set (i := 6) nd rfl (Or.inl rfl) (pe_revLK K rfl (pv 6)))) pss_nil)
    (pss_one (ps_while PassesOwn.never (pt_val pe_bl) (pss_cons (ps_set (i := 7) nd rfl (Or.inl rfl) (pe_ca c_reached_from hr (by decide) (by rfl) (pa_cons (pv 4) (pa_cons (pv 5) (pa_cons (pe_ix (ix_listK K rfl) (pv 6) pe_int (fun _ _ => rfl)) pa_nil)))))
    (pss_cons (ps_if (PW.pt (pw_or (pt_cmp (pc_dnotin (hu_of hr) (pe_ix (ix_listK K rfl) (pv 6) pe_int (fun _ _ => rfl)) (pv 7))) (pw_or1 (PW.pt (pw_and (pt_val (pv 3)) (pw_and1 (pt_cmpR op_eq (pe_ix (ix_listK K rfl) (pe_ix (ix_listK K rfl) (pv 4) (pe_ix (ix_tupK K rfl) (pv 2) pe_int (fun _ _ => rfl)) (fun _ _ => rfl)) (pe_ix (ix_tupK K rfl) (pv 2) pe_int (fun _ _ => rfl)) (fun _ _ => rfl)) pe_int (nomark _)))))))) (pss_one (ps_ret (pe_tup (pa_cons (pe_callTy (ck_tupK K rfl) (by rfl) T.tuple_ (by decide +kernel) (pa_cons (pe_lc (own := [("row", 10)]) rfl nd (pi_listK K rfl (pv 4)) (blkOk_by (N := n_led_round) (sc := defScope s_led_round) (by decide +kernel)) (fun _ _ _ _ _ => (pg_name (i := 10) nd rfl (Or.inl rfl))) (fun _ _ _ _ _ => pts_nil) (fun _ _ _ _ _ => (pe_callTy (ck_tupK K rfl) (by rfl) T.tuple_ (by decide +kernel) (pa_cons (pv 10) pa_nil)))) pa_nil)) (pa_cons (pv 7) pa_nil))))) pss_nil)
    (pss_cons (ps_set (i := 8) nd rfl (Or.inl rfl) (pe_op op_cat (pe_ca c_road_to hr (by decide) (by rfl) (pa_cons (pv 7) (pa_cons (pe_ix (ix_listK K rfl) (pv 6) pe_int (fun _ _ => rfl)) pa_nil))) (pe_lst (pa_cons (pe_tup (pa_cons (pe_ix (ix_tupK K rfl) (pv 2) pe_int (fun _ _ => rfl)) (pa_cons (pe_ix (ix_tupK K rfl) (pv 2) pe_int (fun _ _ => rfl)) (pa_cons (pe_ifExp (pt_val (pv 3)) (pe_un un_neg pe_int) pe_int) pa_nil)))) pa_nil))))
    (pss_cons (ps_set (i := 9) nd rfl (Or.inl rfl) (pe_callB (ck_minK K rfl rfl) (by rfl) T.min_ (by decide +kernel) (pa_cons (pe_lc (own := [("row", 10), ("column", 12), ("by", 13)]) rfl nd (pi_listK K rfl (pv 8)) (blkOk_by (N := n_led_round) (sc := defScope s_led_round) (by decide +kernel)) (fun _ _ _ _ _ => (pg_tupK K rfl (n := 3) rfl (pgs_cons (pg_name (i := 10) nd rfl (Or.inl rfl)) (pgs_cons (pg_name (i := 12) nd rfl (Or.inl rfl)) (pgs_cons (pg_name (i := 13) nd rfl (Or.inl rfl)) pgs_nil))))) (fun _ _ _ _ _ => (pts_one (pt_cmpR op_lt (pv 13) pe_int (nomark _)))) (fun _ _ _ _ _ => (pe_ix (ix_listK K rfl) (pe_ix (ix_listK K rfl) (pv 4) (pv 10) (fun _ _ => rfl)) (pv 12) (fun _ _ => rfl)))) pa_nil)))
    (pss_one (ps_for PassesOwn.never rfl (pi_listK K rfl (pv 8)) (pg_tupK K rfl (n := 3) rfl (pgs_cons (pg_name (i := 10) nd rfl (Or.inl rfl)) (pgs_cons (pg_name (i := 12) nd rfl (Or.inl rfl)) (pgs_cons (pg_name (i := 13) nd rfl (Or.inl rfl)) pgs_nil)))) (pss_one (ps_augS (pe_ix (ix_listK K rfl) (pv 4) (pv 10) (fun _ _ => rfl)) (pv 12) (get_listK K rfl) (pe_op op_mul (pv 13) (pv 9)) ip_add set_list)))))))))))))), ?_⟩
  have S : Sl K H _ [.d (dTab C), .d (dHid hs), .d (dPl p), .d (.bool less), .no, .no, .no, .no, .no, .no, .no, .no, .no, .no] := sl_begin hv n_led_round
  -- the table
  refine s_asgRows (H0 := fun _ => none) (js := [10]) _ (i_tup (e_var rfl)) (by omega) (by simp) (fun _ _ => tg_name) (fun r _ => l_listOf (e_var rfl)) exN S fun σ1 tbA ras H1 e1 htb hras M1 S1 => ?_
  refine s_asgL (H0 := fun _ => none) (ds := (hs.filter fun q => decide (q ≠ p)).map dPl) ((l_lc hs dPl dPl (fun q => !decide (q = p)) _ (i_tup (e_var rfl)) (by omega) (js := [11]) (by simp) (fun _ _ => tg_name) (fun q _ => b_test ((e_neD (e_var rfl) (e_var rfl) (shaped_pl q) (shaped_pl p)).to (by rw [eqv_pl]))) (fun q _ _ => e_var rfl) tuO_pl).to (by simp)) exN S1 fun σ2 H2 oA oxs ho e2 ho2 hoxs S2 => ?_
  refine s_asgL (H0 := fun _ => none) (ds := [dNd (.row p.1), dNd (.col p.2)]) (l_lst (a_cons (e_tup (a_cons e_str (a_cons (e_ixT (e_var rfl) e_int at0) a_nil)) (by simp)) (a_cons (e_tup (a_cons e_str (a_cons (e_ixT (e_var rfl) e_int at1) a_nil)) (by simp)) a_nil)) (by simp)) exN S2 fun σ3 H3 enA enxs hen e3 hen3 henxs S3 => ?_
  have os_def : ∀ q, q ∈ (hs.filter fun q => decide (q ≠ p)) ↔ q ∈ hs ∧ q ≠ p := fun q => by simp
  have hoR : oA ∉ ras := M1.not_in ho
  have henR : enA ∉ ras := (M1.ex e2).not_in hen
  have hM3 := (M1.ex e2).ex e3
  -- the leading
  refine s_via (fun σ4 H4 => ∃ enA enxs, Ex H3 H4 ∧ H4 enA = some (.lst enxs) ∧ enA ∉ ras ∧ DqAll K H4 enxs [dNd (endsOf less p).1, dNd (endsOf less p).2] ∧
      Sl K H4 σ4 [.d (dTab C), .d (dHid hs), .d (dPl p), .d (.bool less), .v (.ref tbA), .v (.ref oA), .v (.ref enA), .no, .no, .no, .no, .no, .no, .no]) ?_ ?_
  · rintro σ4 H4 ⟨enA, enxs, e4, hen4, henr, henxs, S4⟩
    have ho4 : H4 oA = some (.lst oxs) := (e3.trans e4) _ _ ho2
    have hoxs4 := dps_ex (e3.trans e4) _ _ hoxs
    have M4 := hM3.ex e4
    have ex4 : Ex H H4 := (e1.trans e2).trans (e3.trans e4)
    refine s_whileE (K := K) (fun m σ' H' => ∃ T, m = (if less then tat T p else sumF hs (tat C) - tat T p).toNat ∧ Ex H H' ∧ Tx K H4 H' ∧ H' oA = some (.lst oxs) ∧ H' enA = some (.lst enxs) ∧ MutT H' tbA ras T ∧ Feas C hs T ∧
      Sl K H' σ' [.d (dTab C), .d (dHid hs), .d (dPl p), .d (.bool less), .v (.ref tbA), .v (.ref oA), .v (.ref enA), .no, .no, .no, .no, .no, .no, .no]) _ ⟨C, rfl, ex4, Tx.refl _, ho4, hen4, M4, Feas.refl hs (fun q => hC.tat_nn q), S4⟩ ?_
    rintro m σ' H' ⟨T, rfl, ex, tx, ho', hen', M, F, S'⟩
    have hoxs' : DqAll K H' oxs ((hs.filter fun q => decide (q ≠ p)).map dPl) := dps_tx tx _ _ (tuOs_map _ tuO_pl _) hoxs4
    have henxs' : DqAll K H' enxs [dNd (endsOf less p).1, dNd (endsOf less p).2] := dps_tx tx _ _ rfl henxs
    refine ⟨H', _, _, Ex.refl _, S', b_B e_bl, fun H5 e5 S5 => ⟨fun _ => ?_, (fun b => nomatch b)⟩⟩
    have M5 := M.ex e5
    have ho5 := e5 _ _ ho'
    have hen5 := e5 _ _ hen'
    have hoxs5 := dps_ex e5 _ _ hoxs'
    have henxs5 := dps_ex e5 _ _ henxs'
    have pre := preR_of (less := less) hC hH hp F
    have lT : T.length ≤ 6 := by
      have := congrArg List.length F.shape
      simp [shp] at this
      omega
    have hinT : ∀ h ∈ hs, inT T h := fun h hh => (inT_shp F.shape h).mpr (hH.inT hC h hh)
    refine s_asgReach (H0 := H5) (T := T) (os := hs.filter fun q => decide (q ≠ p)) (x := (endsOf less p).1) (a_cons (e_varB rfl M5.dq) (a_cons (e_varB (v := .ref oA) rfl (Dq.lst ho5 hoxs5)) (a_cons (e_ixL (e_varB (v := .ref enA) rfl (Dq.lst hen5 henxs5)) e_int at0) a_nil))) pre (Ex.refl _) S5 fun σ6 H6 q es hq e6 D6 tree cl S6 => ?_
    have M6 := M5.ex e6
    have ho6 := e6 _ _ ho5
    have hen6 := e6 _ _ hen5
    have henxs6 := dps_ex e6 _ _ henxs5
    refine s_if (H0 := H6) (b_or (b_B (e_dnotin rfl D6 (e_ixL (e_varB (v := .ref enA) rfl (Dq.lst hen6 henxs6)) e_int at1))) fun _ => b_and (b_B (e_var rfl)) fun _ => b_test (e_eqI (e_ixL (e_ixL (e_varB rfl M6.dq) (e_ixT (e_var rfl) e_int at0) (at_row (hinT p hp))) (e_ixT (e_var rfl) e_int at1) (at_cell (hinT p hp))) e_int)) (Ex.refl _) S6 (fun b H7 e7 S7 => ?_) (fun b H7 e7 S7 => ?_)
    · -- told
      refine (e_tupOf ((l_lcA T (fun r => .list (r.map .int)) dRow _ (i_list (e_varB rfl (M6.ex e7).dq)) (by omega) (js := [10]) (by simp) (fun _ _ => tg_name) (fun r _ => e_tupOf (e_var rfl)) tuO_row).eh)) σ6 H7 (Ex.refl _) S7 _ fun t H8 e8 h8 => ?_
      refine ⟨_, (S7.ex e8).val rfl, sz_of (by simp), fun a ha => ?_⟩
      refine k a t q T es _ ((ex.trans (e5.trans (e6.trans (e7.trans e8)))).trans (Ex.new ha)) upd_same (dp_ex (Ex.new ha) _ _ h8) (D6.xx ((e7.trans e8).trans (Ex.new ha))) ⟨F, cl, head_mem tree, ?_⟩
      rw [Bool.or_eq_true] at b
      rcases b with b | b
      · refine .inl (look_none.mp ?_)
        cases hz : look es (endsOf less p).2 with
        | none => rfl
        | some o => rw [hz] at b; cases b
      · rw [Bool.and_eq_true] at b
        exact .inr ⟨b.1, of_decide_eq_true b.2⟩
    · rw [Bool.or_eq_false_iff] at b
      obtain ⟨b1, b2⟩ := b
      obtain ⟨o, hlook⟩ : ∃ o, look es (endsOf less p).2 = some o := by
        cases hz : look es (endsOf less p).2 with
        | none => rw [hz] at b1; cases b1
        | some o => exact ⟨o, rfl⟩
      have hpos : less = true → 0 < tat T p := fun e => by
        subst e
        have h1 : ¬ tat T p = 0 := of_decide_eq_false (by simpa using b2)
        have h2 := F.nn p
        omega
      obtain ⟨kk, hkk⟩ := look_mem hlook
      obtain ⟨L, hR, hL⟩ := tree.road (kk + 1) kk _ _ (Nat.lt_succ_self _) hkk
      have hes : es.length ≤ 12 := keys_le tree.nd fun y hy => by
        obtain ⟨e, he, rfl⟩ := List.mem_map.mp hy
        obtain ⟨j, hj, e2⟩ := List.mem_iff_getElem.mp he
        have hj' : es[j]? = some e := by rw [List.getElem?_eq_getElem hj, e2]
        obtain ⟨ex1, eo⟩ := e
        cases eo with
        | none =>
          have j0 := tree.root j ex1 hj'
          subst j0
          rw [tree.head] at hj'
          cases hj'
          exact mem_allN.mpr pre.st
        | some a =>
          obtain ⟨_, _, _, _, he3⟩ := tree.par j ex1 a hj'
          exact pre.succ he3
      have hkk2 := (List.getElem?_eq_some_iff.mp hkk).1
      have D7 := D6.xx e7
      have M7 := M6.ex e7
      have hen7 := e7 _ _ hen6
      have henxs7 := dps_ex e7 _ _ henxs6
      have facts := (hR.facts tree kk _ hkk).1
      let Lr : List Stp := L ++ [(p.1, p.2, byOf less)]
      have hLr : ∀ z ∈ Lr, splc z ∈ hs := fun z hz => by
        rcases List.mem_append.mp hz with h | h
        · exact ((os_def _).mp (facts.plc z h)).1
        · rw [List.mem_singleton.mp h]; exact hp
      have hLrB : ∀ z ∈ Lr, sby z = 1 ∨ sby z = -1 := fun z hz => by
        rcases List.mem_append.mp hz with h | h
        · rcases facts.by1 z h with h | h
          · exact .inl h
          · exact .inr h.1
        · rw [List.mem_singleton.mp h]
          cases less
          · exact .inl rfl
          · exact .inr rfl
      have hLrl : Lr.length ≤ 100 := by
        show (L ++ [_]).length ≤ 100
        rw [List.length_append, List.length_singleton]
        omega
      refine s_asgL (H0 := H7) (ds := Lr.map dStp) ((l_cat (l_road (x := (endsOf less p).2) rfl D7 (e_ixL (e_varB (v := .ref enA) rfl (Dq.lst hen7 henxs7)) e_int at1) hR (by omega)) (l_lst (ds := [dStp (p.1, p.2, byOf less)]) (a_cons (e_tup (a_cons (e_ixT (e_var rfl) e_int at0) (a_cons (e_ixT (e_var rfl) e_int at1) (a_cons (e_if (d := .int (byOf less)) (b_B (e_var rfl)) (fun e => (e_neg e_int).to (by rw [e]; rfl)) (fun e => e_int.to (by rw [e]; rfl))) a_nil))) (by simp)) a_nil) (by simp)) (by rw [List.length_map]; simp; omega)).to (by rw [List.map_append]; rfl)) (Ex.refl _) S7 fun σ8 H8 rA rxs hrA e8 hr8 hrxs8 S8 => ?_
      have M8 := M7.ex e8
      have hrR : rA ∉ ras := M7.not_in hrA
      obtain ⟨hneg, hnegpos⟩ := round_neg tree hR hpos
      refine s_asgP (H0 := H8) (p_min (ns := (Lr.filter fun z => decide (sby z < 0)).map fun z => tat T (splc z)) ((l_lc Lr dStp (fun z => .int (tat T (splc z))) (fun z => decide (sby z < 0)) _ (i_list (e_varB (v := .ref rA) rfl (Dq.lst hr8 hrxs8))) (by omega) (js := [10, 12, 13]) (by simp) (fun _ _ => tg_3) (fun z _ => b_test (e_lt (e_var rfl) e_int)) (fun z hz _ => e_ixL (e_ixL (e_varB rfl M8.dq) (e_var rfl) (at_row (hinT _ (hLr z hz)))) (e_var rfl) (at_cell (hinT _ (hLr z hz)))) (fun _ => rfl)).eh.to (by rw [List.map_map]; rfl)) ?_) (Ex.refl _) S8 fun σ9 H9 dm e9 hm S9 => ?_
      · obtain ⟨z, hz, hz2⟩ := hneg
        rw [List.length_map]
        exact List.length_pos_of_mem (List.mem_filter.mpr ⟨hz, by simpa using hz2⟩)
      obtain ⟨pence, rfl, hmem, hmin⟩ := hm
      have hp1 : 0 < pence := by
        obtain ⟨z, hz, rfl⟩ := List.mem_map.mp hmem
        obtain ⟨h1, h2⟩ := List.mem_filter.mp hz
        exact hnegpos z h1 (by simpa using h2)
      have hmin' : ∀ z ∈ Lr, sby z < 0 → pence ≤ tat T (splc z) := fun z hz h => hmin _ (List.mem_map.mpr ⟨z, List.mem_filter.mpr ⟨hz, by simpa using h⟩, rfl⟩)
      have RO := round_ok hH.nd hp (hH.inT hC) os_def F tree hR hpos hmin' (Int.le_of_lt hp1)
      have M9 := M8.ex e9
      have hr9 := e9 _ _ hr8
      have hrxs9 := dps_ex e9 _ _ hrxs8
      have exc : Ex H H9 := ex.trans ((e5.trans (e6.trans e7)).trans (e8.trans e9))
      have e59 : Ex H' H9 := (e5.trans (e6.trans e7)).trans (e8.trans e9)
      have S9' : Sl K H9 σ9 [.d (dTab C), .d (dHid hs), .d (dPl p), .d (.bool less), .v (.ref tbA), .v (.ref oA), .v (.ref enA), .no, .no, .d (.int pence), .no, .no, .no, .no] := (S9.clr 7).clr 8
      have S9r : σ9[8]? = some (some (V.ref rA)) := S9.val rfl
      refine s_forLE (K := K) (ds := Lr.map dStp) (fun r xs H1 => rA = r ∧ rxs = xs ∧ H9 = H1) (fun Q k => ⟨_, S9r, k rA rxs H9 ⟨rfl, rfl, rfl⟩ hr9 hrxs9⟩) (tuOs_map _ tuO_stp _) ?_
      rintro _ _ _ ⟨rfl, rfl, rfl⟩ _ _
      refine ⟨fun i σ' Hc => Ex H Hc ∧ Tx K H9 Hc ∧ Hc rA = some (.lst rxs) ∧ Hc oA = some (.lst oxs) ∧ Hc enA = some (.lst enxs) ∧ MutT Hc tbA ras (aug T pence (Lr.take i)) ∧ Sl K Hc σ' [.d (dTab C), .d (dHid hs), .d (dPl p), .d (.bool less), .v (.ref tbA), .v (.ref oA), .v (.ref enA), .no, .no, .d (.int pence), .no, .no, .no, .no],
        ⟨exc, Tx.refl _, hr9, e59 _ _ ho', e59 _ _ hen', M9, S9'⟩, ?_, ?_, ?_⟩
      · rintro i σ' Hc ⟨_, h1, h2, _⟩
        exact ⟨h1, h2⟩
      · rintro i d v σ' Hc hd ⟨exc', txc, hrc, hoc, henc, Mc, Sc⟩ hv
        obtain ⟨z, hz, rfl⟩ : ∃ z, Lr[i]? = some z ∧ d = dStp z := by
          rw [List.getElem?_map] at hd
          cases hq : Lr[i]? with
          | none => rw [hq] at hd; cases hd
          | some z => rw [hq] at hd; exact ⟨z, rfl, (Option.some.inj hd).symm⟩
        have hzm := List.mem_of_getElem? hz
        refine tg_3 v σ' Hc _ hv Sc fun σ2 S2 _ => ?_
        refine s_aug (z := z) (k := pence) rfl Mc ((inT_shp (aug_shp _ _ _) _).mpr (hinT _ (hLr z hzm))) (e_var rfl) (e_var rfl) (e_mul (e_var rfl) (e_var rfl) (.inl ?_)) S2 (by simp [En.ok, tuO_tab, tuO_hid, tuO_pl, tuO]) fun H1 r ee hrr txr o Mn Sn => ?_
        · show -(2 ^ 64) < sby z ∧ sby z < 2 ^ 64
          rcases hLrB z hzm with h | h <;> (rw [h]; decide)
        · have hrm : r ∈ ras := List.mem_of_getElem? hrr
          refine ⟨Ex.mut (exc'.trans ee) (hras r hrm), txc.trans ((Tx.of ee).trans (txr o)), ?_, ?_, ?_, ?_, ((Sn.clr 10).clr 12).clr 13⟩
          · rw [upd_ne (show rA ≠ r from fun e => hrR (by rw [e]; exact hrm))]; exact ee _ _ hrc
          · rw [upd_ne (show oA ≠ r from fun e => hoR (by rw [e]; exact hrm))]; exact ee _ _ hoc
          · rw [upd_ne (show enA ≠ r from fun e => henr (by rw [e]; exact hrm))]; exact ee _ _ henc
          · have e : aug T pence (Lr.take (i + 1)) = augS (aug T pence (Lr.take i)) pence z := by
              unfold aug
              rw [List.take_add_one, hz, Option.toList_some, List.foldl_append]
              rfl
            rw [e]
            exact Mn
      · rintro σ' Hc ⟨exc', txc, hrc, hoc, henc, Mc, Sc⟩
        rw [List.length_map, List.take_length] at Mc
        refine ⟨_, ?_, aug T pence Lr, rfl, exc', (tx.trans (Tx.of e59)).trans txc, hoc, henc, Mc, RO.1, Sc.clr 9⟩
        have h1 := RO.2
        have h2 := RO.1.nn p
        have h3 := RO.1.top hH.nd hp
        have h4 := F.top hH.nd hp
        have h1' : tat (aug T pence Lr) p = tat T p + byOf less * pence := h1
        have h2' : 0 ≤ tat (aug T pence Lr) p := h2
        have h3' : tat (aug T pence Lr) p ≤ sumF hs (tat C) := h3
        cases less with
        | true =>
          have hb : byOf true = -1 := rfl
          rw [hb] at h1'
          have h5 := hpos rfl
          show (tat (aug T pence Lr) p).toNat < (tat T p).toNat
          omega
        | false =>
          have hb : byOf false = 1 := rfl
          rw [hb] at h1'
          show (sumF hs (tat C) - tat (aug T pence Lr) p).toNat < (sumF hs (tat C) - tat T p).toNat
          omega
  · intro D' kk
    refine s_ifL (H0 := H3) (b_not (b_B (e_var rfl))) (Ex.refl _) S3 (fun b H4 e4 S4 => ?_) (fun b H4 e4 S4 => ?_)
    · have e : less = false := by simpa using b
      subst e
      refine (l_rev (e_varB (v := .ref enA) rfl (Dq.lst (e4 _ _ hen3) (dps_ex e4 _ _ henxs)))) σ3 H4 (Ex.refl _) S4 _ fun r xs H5 hr5 e5 h5 d5 => ?_
      exact kk _ _ ⟨r, xs, e4.trans e5, h5, (hM3.ex e4).not_in hr5, d5, (S4.ex e5).setV (i := 6)⟩
    · have e : less = true := by simpa using b
      subst e
      exact kk _ _ ⟨enA, enxs, e4, e4 _ _ hen3, henR, dps_ex e4 _ _ henxs, S4⟩
end
end Ak
set_option Elab.async false
set_option linter.all false
set_option maxRecDepth 100000
set_option maxHeartbeats 4000000
/-! AkF4: papers and bounds. -/
namespace Ak
open PySem PySem.Spec PyProof.Rows L2 Evl
def rOf (es : List Ent) (x : Nd) : Bool := (look es x).isSome
theorem rOf_true {es : List Ent} {x : Nd} : rOf es x = true ↔ x ∈ es.map (·.1) := by
  unfold rOf
  constructor
  · intro h
    apply Classical.byContradiction
    intro z
    rw [look_none.mpr z] at h
    cases h
  · intro h
    cases hz : look es x with
    | none => exact absurd h (look_none.mp hz)
    | some o => rfl
theorem rOf_false {es : List Ent} {x : Nd} (h : x ∉ es.map (·.1)) : rOf es x = false := by
  unfold rOf
  rw [look_none.mpr h]
  rfl
/-- a table and a paper for a bound -/
structure Good (less : Bool) (C : Tab) (hs : List Pl) (p : Pl) (n : Int) (T : Tab) (a b : List Int) : Prop where
  feas : Feas C hs T
  val : tat T p = n
  la : a.length = C.length
  lb : b.length = wd C
  sa : ∀ x ∈ a, -1 ≤ x ∧ x ≤ 1
  sb : ∀ x ∈ b, -1 ≤ x ∧ x ≤ 1
  pap : CPap less (tat C) hs p n (fun i => a.getD i 0) (fun j => b.getD j 0)
theorem Good.cert {less : Bool} {C T : Tab} {hs : List Pl} {p : Pl} {n : Int} {a b : List Int} (g : Good less C hs p n T a b) : Cert less (tat C) hs p n := ⟨⟨tat T, fun h _ => g.feas.nn h, g.feas.mar, g.val⟩, _, _, g.pap⟩
theorem CPap.congr {less : Bool} {c : Pl → Int} {hs : List Pl} {p : Pl} {n : Int} {u v u' v' : Nat → Int} (h : ∀ q ∈ hs, wt u' v' q = wt u v q) (P : CPap less c hs p n u v) : CPap less c hs p n u' v' :=
  ⟨fun e q hq => by rw [h q hq]; exact P.lt e q hq, fun e q hq => by rw [h q hq]; exact P.gt e q hq, by rw [← P.sum]; exact sumF_congr fun q hq => by rw [h q hq]⟩
theorem getD_range {n i : Nat} (f : Nat → Int) (h : i < n) : ((List.range n).map f).getD i 0 = f i := by
  rw [List.getD_eq_getElem?_getD, List.getElem?_map, List.getElem?_range h]
  rfl
theorem b2_le (b : Bool) : 0 ≤ b2 b ∧ b2 b ≤ 1 := by cases b <;> decide
theorem cut_good {less : Bool} {C T : Tab} {hs : List Pl} {p : Pl} {es : List Ent} (hC : VC C) (hH : VH C hs) (hp : p ∈ hs) (L : Led C hs p less T es) (he : (endsOf less p).2 ∉ es.map (·.1)) :
    Good less C hs p (tat T p) T ((List.range C.length).map (cutU less (rOf es))) ((List.range (wd C)).map (cutV' less (rOf es))) := by
  refine ⟨L.feas, rfl, by simp, by simp, fun x hx => ?_, fun x hx => ?_, ?_⟩
  · obtain ⟨i, _, rfl⟩ := List.mem_map.mp hx
    have := b2_le (rOf es (.row i))
    unfold cutU
    split <;> omega
  · obtain ⟨i, _, rfl⟩ := List.mem_map.mp hx
    have := b2_le (rOf es (.col i))
    unfold cutV'
    split <;> omega
  · refine CPap.congr (fun q hq => ?_) (cut_paper (R := rOf es) (os := hs.filter fun q => decide (q ≠ p)) hH.nd hp (fun q => by simp) L.feas (fun a b ha he => rOf_true.mpr (L.cl a b (rOf_true.mp ha) he)) (rOf_true.mpr L.st) (rOf_false he))
    obtain ⟨h1, h2⟩ := hH.inr q hq
    show ((List.range C.length).map (cutU less (rOf es))).getD q.1 0 + ((List.range (wd C)).map (cutV' less (rOf es))).getD q.2 0 = _
    rw [getD_range _ h1, getD_range _ h2]
    rfl
theorem nought_good {C T : Tab} {hs : List Pl} {p : Pl} (F : Feas C hs T) (h0 : tat T p = 0) : Good true C hs p (tat T p) T (List.replicate C.length 0) (List.replicate (wd C) 0) := by
  have z : ∀ n i : Nat, (List.replicate n (0 : Int)).getD i 0 = 0 := fun n i => by
    rw [List.getD_eq_getElem?_getD, List.getElem?_replicate]
    split <;> rfl
  refine ⟨F, rfl, by simp, by simp, fun x hx => ?_, fun x hx => ?_, ?_⟩
  · rw [(List.mem_replicate.mp hx).2]; decide
  · rw [(List.mem_replicate.mp hx).2]; decide
  · rw [h0]
    refine CPap.congr (fun q hq => ?_) (nought_paper (c := tat C) (hs := hs) (p := p))
    show (List.replicate C.length (0 : Int)).getD q.1 0 + (List.replicate (wd C) (0 : Int)).getD q.2 0 = _
    rw [z, z]
    rfl
section
variable {P : Program} {w : World} {K : PySem.W.Frag} {mg : Str → Option Value} {base : Heap} {H0 : Hp} {Γ : Env1} {ta tb te : TE} {d : PyData}
theorem at_rowT {T : Tab} {p : Pl} (h : inT T p) : atI (T.map dRow) ((p.1 : Nat) : Int) = some (dRow (T.getD p.1 [])) := atI_nat (by
  rw [List.getElem?_map, List.getD_eq_getElem?_getD, List.getElem?_eq_getElem h.1]
  rfl)
def spPaper (K : PySem.W.Frag) : Sp := fun vs H Q _ => ∃ (C : Tab) (v : V) (q : Addr) (es : List Ent) (less : Bool), vs = [v, .ref q, .bl less] ∧ Dq K H v (dTab C) ∧ VC C ∧ Di K H q es ∧
  ∀ r H', Ex H H' → Dq K H' r (dPap ((List.range C.length).map (cutU less (rOf es))) ((List.range (wd C)).map (cutV' less (rOf es)))) → Q r H'
theorem row0 {C : Tab} (hC : VC C) : Eh K H0 Γ te (dTab C) → Eh K H0 Γ (tCB (rLenS K) (tCons (tOp (rIxT K) te (tC (.int 0))) tNil)) (.int ((wd C : Nat) : Int)) := fun h =>
  (e_lenT (e_ixT h e_int (C0_row hC))).to (by rw [List.length_map]; rfl)
theorem row1 {C : Tab} : Eh K H0 Γ te (dTab C) → Eh K H0 Γ (tCB (rLenS K) (tCons te tNil)) (.int ((C.length : Nat) : Int)) := fun h =>
  (e_lenT h).to (by rw [List.length_map])
theorem ok_paper_of (F : Fn K mg "paper_of" s_paper_of p_paper_of) (T : Tx0 K mg) : Ca P w K mg base "paper_of" 1 p_paper_of (spPaper K) := by
  refine F.ca sc_paper_of (fun vs H Q E h => by obtain ⟨C, v, q, es, less, rfl, _⟩ := h; rfl) (fun f cdv A outer s H vs Q E hr h => ?_)
  obtain ⟨C, v, q, es, less, rfl, hv, hC, D, k⟩ := h
  have nd := sc_paper_of.nd
  have h6 := hC.l6
  have w6 := hC.w6
  refine ⟨_, (pss_cons (ps_setLc (i := 3) (own := [("row", 5)]) rfl nd rfl rfl (sw_true rfl rfl rfl (by decide +kernel)) (pi_range1 (by rfl) T.range_ (pa_cons (pe_callB (ck_lenK K rfl) (by rfl) T.len_ PySem.boot_len (pa_cons (pv 0) pa_nil)) pa_nil)) (blkOk_by (N := n_paper_of) (sc := defScope s_paper_of) (by decide +kernel)) (fun _ _ _ _ _ => (pg_name (i := 5) nd rfl (Or.inl rfl))) (fun _ _ _ _ _ => pts_nil) (fun _ _ _ _ _ => (pe_callTy ck_int (by rfl) T.int_ (by decide +kernel) (pa_cons (pe_cmp (pc_din (hu_of hr) (pe_tup (pa_cons pe_str (pa_cons (pv 5) pa_nil))) (pv 1))) pa_nil))))
    (pss_cons (ps_setLc (i := 4) (own := [("column", 6)]) rfl nd rfl rfl (sw_true rfl rfl rfl (by decide +kernel)) (pi_range1 (by rfl) T.range_ (pa_cons (pe_callB (ck_lenK K rfl) (by rfl) T.len_ PySem.boot_len (pa_cons (pe_ix (ix_tupK K rfl) (pv 0) pe_int (fun _ _ => rfl)) pa_nil)) pa_nil)) (blkOk_by (N := n_paper_of) (sc := defScope s_paper_of) (by decide +kernel)) (fun _ _ _ _ _ => (pg_name (i := 6) nd rfl (Or.inl rfl))) (fun _ _ _ _ _ => pts_nil) (fun _ _ _ _ _ => (pe_callTy ck_int (by rfl) T.int_ (by decide +kernel) (pa_cons (pe_cmp (pc_din (hu_of hr) (pe_tup (pa_cons pe_str (pa_cons (pv 6) pa_nil))) (pv 1))) pa_nil))))
    (pss_cons (ps_if (pt_val (pv 2)) (pss_one (ps_ret (pe_tup (pa_cons (pe_callTy (ck_tupK K rfl) (by rfl) T.tuple_ (by decide +kernel) (pa_cons (pv 3) pa_nil)) (pa_cons (pe_callTy (ck_tupK K rfl) (by rfl) T.tuple_ (by decide +kernel) (pa_cons (pe_lc (own := [("column", 6)]) rfl nd (pi_listK K rfl (pv 4)) (blkOk_by (N := n_paper_of) (sc := defScope s_paper_of) (by decide +kernel)) (fun _ _ _ _ _ => (pg_name (i := 6) nd rfl (Or.inl rfl))) (fun _ _ _ _ _ => pts_nil) (fun _ _ _ _ _ => (pe_op op_sub pe_int (pv 6)))) pa_nil)) pa_nil))))) pss_nil)
    (pss_one (ps_ret (pe_tup (pa_cons (pe_callTy (ck_tupK K rfl) (by rfl) T.tuple_ (by decide +kernel) (pa_cons (pe_lc (own := [("row", 5)]) rfl nd (pi_listK K rfl (pv 3)) (blkOk_by (N := n_paper_of) (sc := defScope s_paper_of) (by decide +kernel)) (fun _ _ _ _ _ => (pg_name (i := 5) nd rfl (Or.inl rfl))) (fun _ _ _ _ _ => pts_nil) (fun _ _ _ _ _ => (pe_op op_sub pe_int (pv 5)))) pa_nil)) (pa_cons (pe_callTy (ck_tupK K rfl) (by rfl) T.tuple_ (by decide +kernel) (pa_cons (pv 4) pa_nil)) pa_nil)))))))), ?_⟩
  have S : Sl K H _ [.v v, .v (.ref q), .v (.bl less), .no, .no, .no, .no] := sl_vals (vs := [v, .ref q, .bl less]) n_paper_of
  refine s_asg (H0 := H) (d := .list ((List.range C.length).map fun i => .int (b2 (rOf es (.row i))))) (l_lcA (List.range C.length) (fun i => .int (i : Nat)) (fun i => .int (b2 (rOf es (.row i)))) _ (i_range (row1 (e_varB rfl hv)) (by omega)) (by rw [List.length_range]; omega) (js := [5]) (by simp) (fun _ _ => tg_name)
    (fun i _ => e_intB (e_din rfl D (e_tup (ds := [.str "row", .int (i : Nat)]) (a_cons e_str (a_cons (e_var rfl) a_nil)) (by simp)))) (fun _ => rfl)).eh (Ex.refl _) S fun σ1 H1 e1 S1 => ?_
  have D1 := D.xx e1
  have hv1 := dp_ex e1 _ _ hv
  refine s_asg (H0 := H1) (d := .list ((List.range (wd C)).map fun i => .int (b2 (rOf es (.col i))))) (l_lcA (List.range (wd C)) (fun i => .int (i : Nat)) (fun i => .int (b2 (rOf es (.col i)))) _ (i_range (row0 hC (e_varB rfl hv1)) (by omega)) (by rw [List.length_range]; omega) (js := [6]) (by simp) (fun _ _ => tg_name)
    (fun i _ => e_intB (e_din rfl D1 (e_tup (ds := [.str "column", .int (i : Nat)]) (a_cons e_str (a_cons (e_var rfl) a_nil)) (by simp)))) (fun _ => rfl)).eh (Ex.refl _) S1 fun σ2 H2 e2 S2 => ?_
  refine s_if (H0 := H2) (b_B (e_varB (v := .bl less) rfl (.bl less))) (Ex.refl _) S2 (fun b H3 e3 S3 => ?_) (fun b H3 e3 S3 => ?_)
  · subst b
    refine s_ret (H0 := H3) (d := dPap ((List.range C.length).map (cutU true (rOf es))) ((List.range (wd C)).map (cutV' true (rOf es)))) (e_tup (a_cons ((e_tupOf (e_var rfl)).to ?_) (a_cons ((e_tupOf (l_lcA (List.range (wd C)) (fun i => .int (b2 (rOf es (.col i)))) (fun i => .int (0 - b2 (rOf es (.col i)))) _ (i_list (e_var rfl)) (by rw [List.length_range]; omega) (js := [6]) (by simp) (fun _ _ => tg_name) (fun i _ => e_sub e_int (e_var rfl)) (fun _ => rfl)).eh).to ?_) a_nil)) (by simp)) (Ex.refl _) S3 fun r H4 e4 d4 => k r H4 (((e1.trans e2).trans e3).trans e4) d4
    · unfold dRow
      rw [List.map_map]
      rfl
    · unfold dRow
      rw [List.map_map]
      rfl
  · subst b
    refine s_ret (H0 := H3) (d := dPap ((List.range C.length).map (cutU false (rOf es))) ((List.range (wd C)).map (cutV' false (rOf es)))) (e_tup (a_cons ((e_tupOf (l_lcA (List.range C.length) (fun i => .int (b2 (rOf es (.row i)))) (fun i => .int (0 - b2 (rOf es (.row i)))) _ (i_list (e_var rfl)) (by rw [List.length_range]; omega) (js := [5]) (by simp) (fun _ _ => tg_name) (fun i _ => e_sub e_int (e_var rfl)) (fun _ => rfl)).eh).to ?_) (a_cons ((e_tupOf (e_var rfl)).to ?_) a_nil)) (by simp)) (Ex.refl _) S3 fun r H4 e4 d4 => k r H4 (((e1.trans e2).trans e3).trans e4) d4
    · unfold dRow
      rw [List.map_map]
      rfl
    · unfold dRow
      rw [List.map_map]
      rfl
/-! bounds -/
theorem e_repA {n : Nat} {i : Int} (ha : Eh K H0 Γ ta (.tuple [.int i])) (hb : Eh K H0 Γ tb (.int (n : Nat))) (h1 : 1 ≤ n) (h2 : n ≤ 1000) : Eh K H0 Γ (tOp (rRepA K) ta tb) (dRow (List.replicate n i)) := fun σ H e0 s Q q =>
  bin2 ha hb e0 s fun v w H2 e2 d1 d2 => by
    obtain ⟨p, xs, rfl, h3, h4⟩ := dp_tup d1
    have hx : xs = [V.int i] := by
      cases h4 with
      | cons a t => cases t; cases a; rfl
    subst hx
    cases dp_int d2
    refine ⟨p, (n : Nat), [V.int i], rfl, rfl, SqT.of h3, by simp, by omega, by omega, by simp, fun e => ?_, fun e r hr => ?_⟩
    · have : n = 1 := by omega
      subst this
      exact q _ H2 e2 (.tup h3 (.cons (.int i) .nil))
    · refine q _ _ (e2.trans (Ex.new hr)) (.tup upd_same ?_)
      have : (List.replicate ((n : Nat) : Int).toNat [V.int i]).flatten = (List.replicate n i).map V.int := by
        rw [Int.toNat_natCast]
        clear e q hb h1 h2 d2
        induction n with
        | zero => rfl
        | succ n ih => rw [List.replicate_succ, List.flatten_cons, ih, List.replicate_succ]; rfl
      rw [this]
      exact ints_dps _
theorem s_asgLed {C : Tab} {hs : List Pl} {p : Pl} {less : Bool} {E : XK} {tr : TA} {i j : Nat} {tz : TS} {D : Ends} {σ : Sg} {H : Hp} (h : Ah K H0 Γ tr [dTab C, dHid hs, dPl p, .bool less]) (hC : VC C) (hH : VH C hs) (hp : p ∈ hs) (e0 : Ex H0 H) (s : Sl K H σ Γ)
    (k : ∀ σ' H1 q T es, Ex H H1 → Di K H1 q es → Led C hs p less T es → Sl K H1 σ' ((Γ.set i (.d (dTab T))).set j (.v (.ref q))) → tz D σ' H1) : tSeq (tAsg (tCall (spLed K) [] E tr) (gTup K 2 (gCons (gName i) (gCons (gName j) gNil)))) tz D σ H :=
  h σ H e0 s _ fun vs H1 e1 h1 => ⟨C, hs, p, less, by rw [List.append_nil]; exact h1, hC, hH, hp, fun a t q T es H2 e2 ha ht D2 L => ⟨a, _, rfl, SqT.of ha, rfl, _, _, rfl, _, _, rfl, rfl, k _ H2 q T es (e1.trans e2) D2 L (((s.ex (e1.trans e2)).setD ht).setV)⟩⟩
theorem e_paper {C : Tab} {es : List Ent} {q : Addr} {n : Nat} {less : Bool} {E : XK} (hn : Γ[n]? = some (.v (.ref q))) (D : Di K H0 q es) (h : Eh K H0 Γ te (dTab C)) (hb : Eh K H0 Γ tb (.bool less)) (hC : VC C) :
    Eh K H0 Γ (tCall (spPaper K) [] E (tCons te (tCons (tVar n) (tCons tb tNil)))) (dPap ((List.range C.length).map (cutU less (rOf es))) ((List.range (wd C)).map (cutV' less (rOf es)))) := fun σ H e0 s Q k =>
  h σ H e0 s _ fun v H1 e1 h1 => ⟨_, (s.ex e1).val hn, hb σ H1 (e0.trans e1) (s.ex e1) _ fun b H2 e2 h2 => ⟨C, v, q, es, less, by rw [dp_bl h2]; rfl, dp_ex e2 _ _ h1, hC, D.xx (e0.trans (e1.trans e2)), fun r H3 e3 d3 => k r H3 ((e1.trans e2).trans e3) d3⟩⟩
def spBounds : PySem.W.Frag → Sp := spF (fun a : Tab × List Pl × Pl => [dTab a.1, dHid a.2.1, dPl a.2.2]) (fun a => VC a.1 ∧ VH a.1 a.2.1 ∧ a.2.2 ∈ a.2.1)
  (fun a d => ∃ n T1 a1 b1 m T2 a2 b2, d = dTold n T1 a1 b1 m T2 a2 b2 ∧ Good true a.1 a.2.1 a.2.2 n T1 a1 b1 ∧ Good false a.1 a.2.1 a.2.2 m T2 a2 b2)
theorem ok_bounds_at (F : Fn K mg "bounds_at" s_bounds_at p_bounds_at) (T : Tx0 K mg) (c_need_place : Ca P w K mg base "need_place" 6 p_need_place (spNeedP K)) (c_led_round : Ca P w K mg base "led_round" 3 p_led_round (spLed K)) (c_paper_of : Ca P w K mg base "paper_of" 1 p_paper_of (spPaper K)) :
    Ca P w K mg base "bounds_at" 7 p_bounds_at (spBounds K) := by
  refine F.ca sc_bounds_at (spF_len (n := 3) fun _ => rfl) (fun f cdv A outer s H vs Q E hr h => ?_)
  obtain ⟨⟨C, hs, p⟩, hv, ⟨hC, hH, hp⟩, k⟩ := h
  have hC : VC C := hC
  have hH : VH C hs := hH
  have hp : p ∈ hs := hp
  have nd := sc_bounds_at.nd
  have l1 := hC.l1
  have l6 := hC.l6
  have w1 := hC.w1
  have w6 := hC.w6
  refine ⟨_, (pss_cons (ps_expr (pe_ca c_need_place hr (by decide) (by rfl) (pa_cons (pv 0) (pa_cons (pv 1) (pa_cons (pv 2) pa_nil)))))
    (pss_cons (ps_asg (pv 2) (pg_tupK K rfl (n := 2) rfl (pgs_cons (pg_name (i := 4) nd rfl (Or.inl rfl)) (pgs_cons (pg_name (i := 5) nd rfl (Or.inl rfl)) pgs_nil))))
    (pss_cons (ps_asg (pe_ca c_led_round hr (by decide) (by rfl) (pa_cons (pv 0) (pa_cons (pv 1) (pa_cons (pv 2) (pa_cons pe_bl pa_nil))))) (pg_tupK K rfl (n := 2) rfl (pgs_cons (pg_name (i := 6) nd rfl (Or.inl rfl)) (pgs_cons (pg_name (i := 7) nd rfl (Or.inl rfl)) pgs_nil))))
    (pss_cons (ps_set (i := 3) nd rfl (Or.inl rfl) (pe_tup (pa_cons (pe_op (op_repAK K rfl) (pe_tup (pa_cons pe_int pa_nil)) (pe_callB (ck_lenK K rfl) (by rfl) T.len_ PySem.boot_len (pa_cons (pv 0) pa_nil))) (pa_cons (pe_op (op_repAK K rfl) (pe_tup (pa_cons pe_int pa_nil)) (pe_callB (ck_lenK K rfl) (by rfl) T.len_ PySem.boot_len (pa_cons (pe_ix (ix_tupK K rfl) (pv 0) pe_int (fun _ _ => rfl)) pa_nil))) pa_nil))))
    (pss_cons (ps_if (pt_cmpR op_gt (pe_ix (ix_tupK K rfl) (pe_ix (ix_tupK K rfl) (pv 6) (pv 4) (fun _ _ => rfl)) (pv 5) (fun _ _ => rfl)) pe_int (nomark _)) (pss_one (ps_set (i := 3) nd rfl (Or.inl rfl) (pe_ca c_paper_of hr (by decide) (by rfl) (pa_cons (pv 0) (pa_cons (pv 7) (pa_cons pe_bl pa_nil)))))) pss_nil)
    (pss_cons (ps_asg (pe_ca c_led_round hr (by decide) (by rfl) (pa_cons (pv 0) (pa_cons (pv 1) (pa_cons (pv 2) (pa_cons pe_bl pa_nil))))) (pg_tupK K rfl (n := 2) rfl (pgs_cons (pg_name (i := 8) nd rfl (Or.inl rfl)) (pgs_cons (pg_name (i := 7) nd rfl (Or.inl rfl)) pgs_nil))))
    (pss_one (ps_ret (pe_tup (pa_cons (pe_ix (ix_tupK K rfl) (pe_ix (ix_tupK K rfl) (pv 6) (pv 4) (fun _ _ => rfl)) (pv 5) (fun _ _ => rfl)) (pa_cons (pv 6) (pa_cons (pv 3) (pa_cons (pe_ix (ix_tupK K rfl) (pe_ix (ix_tupK K rfl) (pv 8) (pv 4) (fun _ _ => rfl)) (pv 5) (fun _ _ => rfl)) (pa_cons (pv 8) (pa_cons (pe_ca c_paper_of hr (by decide) (by rfl) (pa_cons (pv 0) (pa_cons (pv 7) (pa_cons pe_bl pa_nil)))) pa_nil))))))))))))))), ?_⟩
  have S : Sl K H _ [.d (dTab C), .d (dHid hs), .d (dPl p), .no, .no, .no, .no, .no, .no] := sl_begin hv n_bounds_at
  refine s_drop (H0 := fun _ => none) (e_call (d := .none) (C, hs, p) (a_cons (e_var rfl) (a_cons (e_var rfl) (a_cons (e_var rfl) a_nil))) ⟨hC, hH, hp⟩ fun _ p => p) exN S fun H1 e1 S1 => ?_
  refine s_asgT (H0 := fun _ => none) (e_var rfl) tg_2 exN S1 fun σ2 H2 e2 S2 => ?_
  refine s_asgLed (H0 := fun _ => none) (C := C) (hs := hs) (p := p) (less := true) (a_cons (e_var rfl) (a_cons (e_var rfl) (a_cons (e_var rfl) (a_cons e_bl a_nil)))) hC hH hp exN S2 fun σ3 H3 q T1 es e3 D3 L1 S3 => ?_
  have in1 : inT T1 p := (inT_shp L1.feas.shape p).mpr (hH.inT hC p hp)
  refine s_asg (H0 := fun _ => none) (d := dPap (List.replicate C.length 0) (List.replicate (wd C) 0)) (e_tup (a_cons (e_repA (e_tup (a_cons e_int a_nil) (by simp)) (row1 (e_var rfl)) l1 (by omega)) (a_cons (e_repA (e_tup (a_cons e_int a_nil) (by simp)) (row0 hC (e_var rfl)) w1 (by omega)) a_nil)) (by simp)) exN S3 fun σ4 H4 e4 S4 => ?_
  refine s_via (fun σ5 H5 => ∃ a b, Ex H4 H5 ∧ Good true C hs p (tat T1 p) T1 a b ∧ Sl K H5 σ5 [.d (dTab C), .d (dHid hs), .d (dPl p), .d (dPap a b), .d (.int (p.1 : Nat)), .d (.int (p.2 : Nat)), .d (dTab T1), .v (.ref q), .no]) ?_ ?_
  · rintro σ5 H5 ⟨a, b, e5, G1, S5⟩
    refine s_asgLed (H0 := fun _ => none) (C := C) (hs := hs) (p := p) (less := false) (a_cons (e_var rfl) (a_cons (e_var rfl) (a_cons (e_var rfl) (a_cons e_bl a_nil)))) hC hH hp exN S5 fun σ6 H6 q2 T2 es2 e6 D6 L2 S6 => ?_
    have in2 : inT T2 p := (inT_shp L2.feas.shape p).mpr (hH.inT hC p hp)
    have G2 := cut_good hC hH hp L2 (L2.fin.resolve_right fun z => nomatch z.1)
    refine s_ret (H0 := H6) (d := dTold (tat T1 p) T1 a b (tat T2 p) T2 _ _) (e_tup (a_cons (e_ixT (e_ixT (e_var rfl) (e_var rfl) (at_rowT in1)) (e_var rfl) (at_cell in1)) (a_cons (e_var rfl) (a_cons (e_var rfl) (a_cons (e_ixT (e_ixT (e_var rfl) (e_var rfl) (at_rowT in2)) (e_var rfl) (at_cell in2)) (a_cons (e_var rfl) (a_cons (e_paper rfl D6 (e_var rfl) e_bl hC) a_nil)))))) (by simp)) (Ex.refl _) S6 fun v H7 e7 d7 => ?_
    exact k v _ H7 (((((e1.trans e2).trans e3).trans (e4.trans e5)).trans e6).trans e7) d7 ⟨_, _, _, _, _, _, _, _, rfl, G1, G2⟩
  · intro D' kk
    refine s_ifL (H0 := H4) (b_test (e_gt (e_ixT (e_ixT (e_var rfl) (e_var rfl) (at_rowT in1)) (e_var rfl) (at_cell in1)) e_int)) (Ex.refl _) S4 (fun b H5 e5 S5 => ?_) (fun b H5 e5 S5 => ?_)
    · have hpos : 0 < tat T1 p := of_decide_eq_true b
      have G1 := cut_good hC hH hp L1 (L1.fin.resolve_right fun z => by have := z.2; omega)
      refine (e_paper (n := 7) rfl ((D3.xx e4).xx e5) (e_var (n := 0) rfl) e_bl hC) _ H5 (Ex.refl _) S5 _ fun v H6 e6 d6 => ?_
      exact kk _ _ ⟨_, _, e5.trans e6, G1, (S5.ex e6).setD (i := 3) d6⟩
    · have hpos : ¬ 0 < tat T1 p := of_decide_eq_false b
      have h0 := L1.feas.nn p
      exact kk _ _ ⟨_, _, e5, nought_good L1.feas (by omega), S5⟩
end
end Ak
set_option Elab.async false
set_option linter.all false
set_option maxRecDepth 100000
set_option maxHeartbeats 4000000
/-! AkF5: what shows bounds. -/
namespace Ak
open PySem PySem.Spec PyProof.Rows L2 Evl
theorem sumF_filter {α : Type} (hs : List α) (q : α → Bool) (f : α → Int) : sumF hs (fun h => f h * (if q h then 1 else 0)) = sumF (hs.filter q) f := by
  induction hs with
  | nil => rfl
  | cons a hs ih =>
    rw [sumF_cons, ih]
    cases h : q a with
    | true => rw [List.filter_cons_of_pos h, sumF_cons, if_pos rfl, Int.mul_one]
    | false => rw [List.filter_cons_of_neg (by simp [h]), if_neg (by simp)]; omega
def rowSum (T : Tab) (hs : List Pl) (i : Nat) : Int := sumF (hs.filter fun h => decide (h.1 = i)) (tat T)
def colSum (T : Tab) (hs : List Pl) (j : Nat) : Int := sumF (hs.filter fun h => decide (h.2 = j)) (tat T)
theorem rowSum_eq {C T : Tab} {hs : List Pl} (m : EqM hs (tat T) (tat C)) (i : Nat) : rowSum T hs i = rowSum C hs i := by
  have h := m (fun k => if k = i then 1 else 0) (fun _ => 0)
  have e : ∀ S : Tab, sumF hs (fun h => tat S h * wt (fun k => if k = i then 1 else 0) (fun _ => 0) h) = rowSum S hs i := fun S => by
    unfold rowSum
    rw [← sumF_filter]
    refine sumF_congr fun h _ => ?_
    show tat S h * ((if h.1 = i then 1 else 0) + 0) = _
    rw [Int.add_zero]
    by_cases q : h.1 = i
    · rw [if_pos q, if_pos (by simpa using q)]
    · rw [if_neg q, if_neg (by simpa using q)]
  rw [e, e] at h
  exact h
theorem colSum_eq {C T : Tab} {hs : List Pl} (m : EqM hs (tat T) (tat C)) (i : Nat) : colSum T hs i = colSum C hs i := by
  have h := m (fun _ => 0) (fun k => if k = i then 1 else 0)
  have e : ∀ S : Tab, sumF hs (fun h => tat S h * wt (fun _ => 0) (fun k => if k = i then 1 else 0) h) = colSum S hs i := fun S => by
    unfold colSum
    rw [← sumF_filter]
    refine sumF_congr fun h _ => ?_
    show tat S h * (0 + (if h.2 = i then 1 else 0)) = _
    rw [Int.zero_add]
    by_cases q : h.2 = i
    · rw [if_pos q, if_pos (by simpa using q)]
    · rw [if_neg q, if_neg (by simpa using q)]
  rw [e, e] at h
  exact h
def rowSums (T : Tab) (hs : List Pl) (n : Nat) : List Int := (List.range n).map (rowSum T hs)
def colSums (T : Tab) (hs : List Pl) (m : Nat) : List Int := (List.range m).map (colSum T hs)
def dLeft (r c : List Int) : PyData := .tuple [.list (r.map .int), .list (c.map .int)]
theorem shaped_left (r c : List Int) : SeqAt.shaped (dLeft r c) = true := by
  refine shaped_of (by simp [dLeft, PyData.canLay0, PyData.canLayAll0, lay_ints]) ?_
  have h1 := depth_ints r
  have h2 := depth_ints c
  simp only [dLeft, PyData.depth, PyData.depthAll]
  omega
/-- a table of the shape of counts -/
structure Sh (T : Tab) (hs : List Pl) (n m : Nat) : Prop where
  len : T.length = n
  w : wd T = m
  n1 : 1 ≤ n
  n6 : n ≤ 6
  m6 : m ≤ 6
  inn : ∀ h ∈ hs, inT T h
  hl : hs.length ≤ 36
theorem wd_shp {T C : Tab} (h : shp T = shp C) : wd T = wd C := by
  unfold wd
  rw [getD_map_len, getD_map_len, h]
theorem len_shp {T C : Tab} (h : shp T = shp C) : T.length = C.length := by
  have := congrArg List.length h
  simpa [shp] using this
theorem Sh.of {C T : Tab} {hs : List Pl} (hC : VC C) (hH : VH C hs) (h : shp T = shp C) : Sh T hs C.length (wd C) :=
  ⟨len_shp h, wd_shp h, hC.l1, hC.l6, hC.w6, fun q hq => (inT_shp h q).mpr (hH.inT hC q hq), hH.len hC⟩
/-! the sum of a paper -/
theorem zip_sum : ∀ (a : List Int) (f : Nat → Int) (k : Nat), ((a.zip ((List.range a.length).map fun i => f (k + i))).map fun q => q.1 * q.2).sum = sumF (List.range a.length) (fun i => a.getD i 0 * f (k + i))
  | [], f, k => rfl
  | x :: a, f, k => by
    have e : (List.range (x :: a).length).map (fun i => f (k + i)) = f k :: (List.range a.length).map (fun i => f ((k + 1) + i)) := by
      rw [List.length_cons, List.range_succ_eq_map, List.map_cons, List.map_map]
      congr 1
      refine List.map_congr_left fun i _ => ?_
      show f (k + (i + 1)) = f (k + 1 + i)
      congr 1
      omega
    rw [e, List.zip_cons_cons, List.map_cons, List.sum_cons, zip_sum a f (k + 1), List.length_cons, List.range_succ_eq_map, sumF_cons, sumF_map]
    show x * f k + _ = x * f (k + 0) + _
    rw [Nat.add_zero]
    congr 1
    refine sumF_congr fun i _ => ?_
    show a.getD i 0 * f (k + 1 + i) = (x :: a).getD (i + 1) 0 * f (k + (i + 1))
    rw [List.getD_cons_succ]
    congr 2
    omega
theorem paper_sum {C : Tab} {hs : List Pl} {a b : List Int} {n m : Nat} (ha : a.length = n) (hb : b.length = m) (hi : ∀ h ∈ hs, h.1 < n ∧ h.2 < m) :
    (((a ++ b).zip (rowSums C hs n ++ colSums C hs m)).map fun q => q.1 * q.2).sum = sumF hs (fun h => tat C h * wt (fun i => a.getD i 0) (fun j => b.getD j 0) h) := by
  subst ha hb
  have z1 := zip_sum a (rowSum C hs) 0
  have z2 := zip_sum b (colSum C hs) 0
  simp only [Nat.zero_add] at z1 z2
  have k1 := sumF_key hs (fun h : Pl => h.1) (tat C) (fun i => a.getD i 0) a.length (fun h hh => (hi h hh).1)
  have k2 := sumF_key hs (fun h : Pl => h.2) (tat C) (fun j => b.getD j 0) b.length (fun h hh => (hi h hh).2)
  rw [List.zip_append (by simp [rowSums]), List.map_append, List.sum_append]
  have e : sumF hs (fun h => tat C h * wt (fun i => a.getD i 0) (fun j => b.getD j 0) h) = sumF hs (fun h => tat C h * a.getD h.1 0) + sumF hs (fun h => tat C h * b.getD h.2 0) := by
    rw [← sumF_add]
    refine sumF_congr fun h _ => ?_
    show tat C h * (a.getD h.1 0 + b.getD h.2 0) = _
    rw [Int.mul_add]
  rw [e, k1, k2]
  unfold rowSums colSums
  rw [z1, z2]
  rfl
section
variable {P : Program} {w : World} {K : PySem.W.Frag} {mg : Str → Option Value} {base : Heap} {H0 : Hp} {Γ : Env1} {ta tb te : TE} {d : PyData}
theorem C0_row' {C : Tab} (h : 1 ≤ C.length) : atI (C.map dRow) ((0 : Nat) : Int) = some (dRow (C.getD 0 [])) := atI_nat (by
  rw [List.getElem?_map, List.getD_eq_getElem?_getD, List.getElem?_eq_getElem (show 0 < C.length from h)]
  rfl)
theorem row0' {C : Tab} (hC : atI (C.map dRow) ((0 : Nat) : Int) = some (dRow (C.getD 0 []))) : Eh K H0 Γ te (dTab C) → Eh K H0 Γ (tCB (rLenS K) (tCons (tOp (rIxT K) te (tC (.int 0))) tNil)) (.int ((wd C : Nat) : Int)) := fun h =>
  (e_lenT (e_ixT h e_int hC)).to (by rw [List.length_map]; rfl)
def spLeft : PySem.W.Frag → Sp := spF (fun a : Tab × List Pl × Nat × Nat => [dTab a.1, dHid a.2.1]) (fun a => Sh a.1 a.2.1 a.2.2.1 a.2.2.2) (fun a d => d = dLeft (rowSums a.1 a.2.1 a.2.2.1) (colSums a.1 a.2.1 a.2.2.2))
theorem ok_left_of (F : Fn K mg "left_of" s_left_of p_left_of) (T : Tx0 K mg) : Ca P w K mg base "left_of" 1 p_left_of (spLeft K) := by
  refine F.ca sc_left_of (spF_len (n := 2) fun _ => rfl) (fun f cdv A outer s H vs Q E hr h => ?_)
  obtain ⟨⟨M, hs, n, m⟩, hv, hS, k⟩ := h
  have hS : Sh M hs n m := hS
  have nd := sc_left_of.nd
  have n1 := hS.n1
  have n6 := hS.n6
  have m6 := hS.m6
  have hl := hS.hl
  have inn := hS.inn
  refine ⟨_, (pss_cons (ps_setLc (i := 2) (own := [("line", 4)]) rfl nd rfl rfl (sw_true rfl rfl rfl (by decide +kernel)) (pi_range1 (by rfl) T.range_ (pa_cons (pe_callB (ck_lenK K rfl) (by rfl) T.len_ PySem.boot_len (pa_cons (pv 0) pa_nil)) pa_nil)) (blkOk_by (N := n_left_of) (sc := defScope s_left_of) (by decide +kernel)) (fun _ _ _ _ _ => (pg_name (i := 4) nd rfl (Or.inr rfl))) (fun _ _ _ _ _ => pts_nil) (fun _ _ _ _ _ => (pe_callB (ck_sumK K rfl rfl) (by rfl) T.sum_ (by decide +kernel) (pa_cons (pe_lc (own := [("row", 5), ("column", 6)]) rfl nd (pi_tupK K rfl (pv 1)) (by show BlkOk n_left_of (relS _ (defScope s_left_of)) _ _; exact blkOk_by (by decide +kernel)) (fun _ _ _ _ _ => (pg_tupK K rfl (n := 2) rfl (pgs_cons (pg_name (i := 5) nd rfl (Or.inl rfl)) (pgs_cons (pg_name (i := 6) nd rfl (Or.inl rfl)) pgs_nil)))) (fun _ _ _ _ _ => (pts_one (pt_cmpR op_eq (pv 5) (pv 4) (nomark _)))) (fun _ _ _ _ _ => (pe_ix (ix_tupK K rfl) (pe_ix (ix_tupK K rfl) (pv 0) (pv 5) (fun _ _ => rfl)) (pv 6) (fun _ _ => rfl)))) pa_nil))))
    (pss_cons (ps_set (i := 3) nd rfl (Or.inl rfl) (pe_lst pa_nil))
    (pss_cons (ps_for PassesOwn.never rfl (pi_range1 (by rfl) T.range_ (pa_cons (pe_callB (ck_lenK K rfl) (by rfl) T.len_ PySem.boot_len (pa_cons (pe_ix (ix_tupK K rfl) (pv 0) pe_int (fun _ _ => rfl)) pa_nil)) pa_nil)) (pg_name (i := 4) nd rfl (Or.inr rfl)) (pss_one (ps_expr (pe_bmK K rfl PySem.F.plainAttrs_list PySem.F.slot_list_append PySem.F.type_list_append mt_append (pv 3) (pa_cons (pe_callB (ck_sumK K rfl rfl) (by rfl) T.sum_ (by decide +kernel) (pa_cons (pe_lc (own := [("row", 5), ("column", 6)]) rfl nd (pi_tupK K rfl (pv 1)) (blkOk_by (N := n_left_of) (sc := defScope s_left_of) (by decide +kernel)) (fun _ _ _ _ _ => (pg_tupK K rfl (n := 2) rfl (pgs_cons (pg_name (i := 5) nd rfl (Or.inl rfl)) (pgs_cons (pg_name (i := 6) nd rfl (Or.inl rfl)) pgs_nil)))) (fun _ _ _ _ _ => (pts_one (pt_cmpR op_eq (pv 6) (pv 4) (nomark _)))) (fun _ _ _ _ _ => (pe_ix (ix_tupK K rfl) (pe_ix (ix_tupK K rfl) (pv 0) (pv 5) (fun _ _ => rfl)) (pv 6) (fun _ _ => rfl)))) pa_nil)) pa_nil)))))
    (pss_one (ps_ret (pe_tup (pa_cons (pv 2) (pa_cons (pv 3) pa_nil)))))))), ?_⟩
  have S : Sl K H _ [.d (dTab M), .d (dHid hs), .no, .no, .no, .no, .no] := sl_begin hv n_left_of
  refine s_asgL (H0 := fun _ => none) (ds := (rowSums M hs n).map .int) ((l_lcA (List.range n) (fun i => .int (i : Nat)) (fun i => .int (rowSum M hs i)) _ (i_range ((row1 (e_var rfl)).to (by rw [hS.len])) (by omega)) (by rw [List.length_range]; omega) (js := [4]) (by simp) (fun _ _ => tg_name)
    (fun i _ => (e_sum (ns := (hs.filter fun h => decide (((h.1 : Nat) : Int) = (i : Int))).map (tat M)) ((l_lc hs dPl (fun h => .int (tat M h)) (fun h => decide (((h.1 : Nat) : Int) = (i : Int))) _ (i_tup (e_var rfl)) (by omega) (js := [5, 6]) (by simp) (fun _ _ => tg_2) (fun h _ => b_test (e_eqI (e_var rfl) (e_var rfl))) (fun h hh _ => e_ixT (e_ixT (e_var rfl) (e_var rfl) (at_rowT (inn h hh))) (e_var rfl) (at_cell (inn h hh))) (fun _ => rfl)).eh.to (by rw [List.map_map]; rfl))).to
      (by rw [filt_cast (f := fun h : Pl => h.1)]; rfl)) (fun _ => rfl)).to (by unfold rowSums; rw [List.map_map]; rfl)) exN S fun σ1 H1 rp rxs hrp e1 hr1 hrx S1 => ?_
  refine s_asgL (H0 := H1) (ds := []) (l_lst a_nil (by simp)) (Ex.refl _) S1 fun σ2 H2 cp cxs hcp e2 hc2 hcx S2 => ?_
  refine s_for (H0 := H2) (j_range ((row0' ?_ (e_var rfl)).to (by rw [hS.w])) (by omega)) (Ex.refl _) S2 fun H3 e3 S3 => ?_
  · exact C0_row' (by rw [hS.len]; exact n1)
  refine ⟨fun i σ' H' => Ex H1 H' ∧ Tx K H3 H' ∧ ∃ xs, H' cp = some (.lst xs) ∧ DqAll K H' xs ((List.range i).map fun j => .int (colSum M hs j)) ∧ Sl K H' σ' [.d (dTab M), .d (dHid hs), .v (.ref rp), .v (.ref cp), .no, .no, .no], ⟨e2.trans e3, Tx.refl _, cxs, e3 _ _ hc2, dps_ex e3 _ _ hcx, S3⟩, fun i σ' H' h => h.2.1, ?_, ?_⟩
  · rintro i d v σ' H4 H5 hd ⟨ex, tx, xs, hc, hx, S'⟩ e5 hv5
    have hi : i < m := by
      have := (List.getElem?_eq_some_iff.mp hd).1
      simpa [dNs] using this
    have ed : d = .int (i : Nat) := by
      unfold dNs at hd
      rw [List.getElem?_map, List.getElem?_range hi] at hd
      exact (Option.some.inj hd).symm
    subst ed
    have lx := dps_len hx
    rw [List.length_map, List.length_range] at lx
    refine tg_name v σ' H5 _ hv5 (S'.ex e5) fun σ6 S6 _ => ?_
    refine s_appL (H0 := fun _ => none) ((e_sum (ns := (hs.filter fun h => decide (((h.2 : Nat) : Int) = (i : Int))).map (tat M)) ((l_lc hs dPl (fun h => .int (tat M h)) (fun h => decide (((h.2 : Nat) : Int) = (i : Int))) _ (i_tup (e_var rfl)) (by omega) (js := [5, 6]) (by simp) (fun _ _ => tg_2) (fun h _ => b_test (e_eqI (e_var rfl) (e_var rfl))) (fun h hh _ => e_ixT (e_ixT (e_var rfl) (e_var rfl) (at_rowT (inn h hh))) (e_var rfl) (at_cell (inn h hh))) (fun _ => rfl)).eh.to (by rw [List.map_map]; rfl))).to
      (e := .int (colSum M hs i)) (by rw [filt_cast (f := fun h : Pl => h.2)]; rfl)) exN S6 rfl (e5 _ _ hc) (by omega) fun H7 y e7 hy S7 => ?_
    have hc7 := (e5.trans e7) _ _ hc
    have tx8 : Tx K H7 (upd H7 cp (.lst (xs ++ [y]))) := Tx.upd (noT_lst hc7)
    refine ⟨Ex.mut (ex.trans (e5.trans e7)) hcp, tx.trans ((Tx.of (e5.trans e7)).trans tx8), _, upd_same, ?_, (S7.clr 4).tx (by simp [En.ok, tuO_tab, tuO_hid]) tx8⟩
    rw [List.range_succ, List.map_append]
    exact dps_app (dps_tx tx8 _ _ (tuOs_map _ (fun _ => rfl) _) (dps_ex (e5.trans e7) _ _ hx)) (.cons (dp_tx tx8 _ _ rfl hy) .nil)
  · rintro σ' H' ⟨ex, tx, xs, hc, hx, S'⟩
    have lm : (dNs m).length = m := by simp [dNs]
    rw [lm] at hx
    refine s_ret (H0 := H') (d := dLeft (rowSums M hs n) (colSums M hs m)) (e_tup (a_cons (e_varB (v := .ref rp) rfl (Dq.lst (ex _ _ hr1) (dps_ex ex _ _ hrx))) (a_cons (e_varB (v := .ref cp) rfl (Dq.lst hc (by rw [colSums, List.map_map]; exact hx))) a_nil)) (by simp)) (Ex.refl _) S' fun v H8 e8 d8 => k v _ H8 ((e1.trans ex).trans e8) d8 rfl
end
end Ak
set_option Elab.async false
set_option linter.all false
set_option maxRecDepth 100000
set_option maxHeartbeats 4000000
/-! AkF6: what shows bounds, and what is given away. -/
namespace Ak
open PySem PySem.Spec PyProof.Rows L2 Evl
theorem zip_getD {α : Type} : ∀ (xs ys : List α) (d : α) (q : α × α), q ∈ xs.zip ys → ∃ i, i < xs.length ∧ i < ys.length ∧ xs.getD i d = q.1 ∧ ys.getD i d = q.2
  | [], _, _, _, h => by simp at h
  | _ :: _, [], _, _, h => by simp at h
  | x :: xs, y :: ys, d, q, h => by
    rw [List.zip_cons_cons] at h
    rcases List.mem_cons.mp h with e | h
    · subst e
      exact ⟨0, by simp, by simp, rfl, rfl⟩
    · obtain ⟨i, h1, h2, h3, h4⟩ := zip_getD xs ys d q h
      exact ⟨i + 1, by simp [h1], by simp [h2], by simpa using h3, by simpa using h4⟩
theorem feas_row {C T : Tab} {hs : List Pl} (F : Feas C hs T) {q : List Int × List Int} (h : q ∈ C.zip T) : q.2.length = q.1.length ∧ ∀ x ∈ q.2, 0 ≤ x := by
  obtain ⟨i, h1, h2, h3, h4⟩ := zip_getD C T [] q h
  refine ⟨?_, fun x hx => ?_⟩
  · rw [← h3, ← h4, getD_map_len, getD_map_len, F.shape]
  · rw [← h4] at hx
    obtain ⟨j, hj, e⟩ := List.mem_iff_getElem.mp hx
    have := F.nn (i, j)
    unfold tat at this
    rw [List.getD_eq_getElem?_getD (l := T.getD i []), List.getElem?_eq_getElem hj] at this
    rw [← e]
    exact this
section
variable {P : Program} {w : World} {K : PySem.W.Frag} {mg : Str → Option Value} {base : Heap} {H0 : Hp} {Γ : Env1} {ta tb te : TE} {d : PyData}
def spCanBe : PySem.W.Frag → Sp := spF (fun a : Tab × List Pl × Tab => [dTab a.1, dHid a.2.1, dTab a.2.2]) (fun a => VC a.1 ∧ VH a.1 a.2.1 ∧ Feas a.1 a.2.1 a.2.2) (fun _ d => d = .bool true)
theorem dNs_mem {n : Nat} {d : PyData} (h : d ∈ dNs n) : ∃ i, i < n ∧ d = .int ((i : Nat) : Int) := by
  unfold dNs at h
  obtain ⟨i, hi, rfl⟩ := List.mem_map.mp h
  exact ⟨i, List.mem_range.mp hi, rfl⟩
theorem ok_can_be (F : Fn K mg "can_be" s_can_be p_can_be) (T : Tx0 K mg) (c_is_whole : Ca P w K mg base "is_whole" 1 p_is_whole (spWhole K)) (c_left_of : Ca P w K mg base "left_of" 1 p_left_of (spLeft K)) : Ca P w K mg base "can_be" 2 p_can_be (spCanBe K) := by
  refine F.ca sc_can_be (spF_len (n := 3) fun _ => rfl) (fun f cdv A outer s H vs Q E hr h => ?_)
  obtain ⟨⟨C, hs, M⟩, hv, ⟨hC, hH, hF⟩, k⟩ := h
  have hC : VC C := hC
  have hH : VH C hs := hH
  have hF : Feas C hs M := hF
  have nd := sc_can_be.nd
  have l6 := hC.l6
  have w6 := hC.w6
  have lM := len_shp hF.shape
  refine ⟨_, (pss_cons (ps_if (PW.pt (pw_or (pt_not (pt_val (pe_callB (ck_isiK K rfl) (by rfl) T.isinstance (by decide +kernel) (pa_cons (pv 2) (pa_cons (pe_bltn (v := .ty "tuple") (by rfl) T.tuple_ (by decide +kernel) rfl) pa_nil))))) (pw_or1 (pt_cmpR op_ne (pe_callB (ck_lenK K rfl) (by rfl) T.len_ PySem.boot_len (pa_cons (pv 2) pa_nil)) (pe_callB (ck_lenK K rfl) (by rfl) T.len_ PySem.boot_len (pa_cons (pv 0) pa_nil)) (nomark _))))) (pss_one (ps_ret pe_bl)) pss_nil)
    (pss_cons (ps_for PassesOwn.never rfl (pi_zipK K rfl (by rfl) T.zip_ (pa_cons (pv 0) (pa_cons (pv 2) pa_nil))) (pg_tupK K rfl (n := 2) rfl (pgs_cons (pg_name (i := 3) nd rfl (Or.inl rfl)) (pgs_cons (pg_name (i := 4) nd rfl (Or.inl rfl)) pgs_nil))) (pss_cons (ps_if (PW.pt (pw_or (pt_not (pt_val (pe_callB (ck_isiK K rfl) (by rfl) T.isinstance (by decide +kernel) (pa_cons (pv 4) (pa_cons (pe_bltn (v := .ty "tuple") (by rfl) T.tuple_ (by decide +kernel) rfl) pa_nil))))) (pw_or1 (pt_cmpR op_ne (pe_callB (ck_lenK K rfl) (by rfl) T.len_ PySem.boot_len (pa_cons (pv 4) pa_nil)) (pe_callB (ck_lenK K rfl) (by rfl) T.len_ PySem.boot_len (pa_cons (pv 3) pa_nil)) (nomark _))))) (pss_one (ps_ret pe_bl)) pss_nil)
    (pss_one (ps_if (pt_not (pt_val (pe_callB (ck_allK K rfl rfl) (by rfl) T.all_ (by decide +kernel) (pa_cons (pe_lc (own := [("one", 6)]) rfl nd (pi_tupK K rfl (pv 4)) (blkOk_by (N := n_can_be) (sc := defScope s_can_be) (by decide +kernel)) (fun _ _ _ _ _ => (pg_name (i := 6) nd rfl (Or.inl rfl))) (fun _ _ _ _ _ => pts_nil) (fun _ _ _ _ _ => (pe_and (pe_ca c_is_whole hr (by decide) (by rfl) (pa_cons (pv 6) pa_nil)) (pe_one (pe_cmpR op_ge (pv 6) pe_int (nomark _)))))) pa_nil)))) (pss_one (ps_ret pe_bl)) pss_nil))))
    (pss_cons (ps_for PassesOwn.never rfl (pi_range1 (by rfl) T.range_ (pa_cons (pe_callB (ck_lenK K rfl) (by rfl) T.len_ PySem.boot_len (pa_cons (pv 0) pa_nil)) pa_nil)) (pg_name (i := 3) nd rfl (Or.inl rfl)) (pss_one (ps_for PassesOwn.never rfl (pi_range1 (by rfl) T.range_ (pa_cons (pe_callB (ck_lenK K rfl) (by rfl) T.len_ PySem.boot_len (pa_cons (pe_ix (ix_tupK K rfl) (pv 0) pe_int (fun _ _ => rfl)) pa_nil)) pa_nil)) (pg_name (i := 5) nd rfl (Or.inl rfl)) (pss_one (ps_if (PW.pt (pw_and (pt_cmpR (op_notInTDK K rfl hr.units) (pe_tup (pa_cons (pv 3) (pa_cons (pv 5) pa_nil))) (pv 1) rfl) (pw_and1 (pt_cmpR op_ne (pe_ix (ix_tupK K rfl) (pe_ix (ix_tupK K rfl) (pv 2) (pv 3) (fun _ _ => rfl)) (pv 5) (fun _ _ => rfl)) (pe_ix (ix_tupK K rfl) (pe_ix (ix_tupK K rfl) (pv 0) (pv 3) (fun _ _ => rfl)) (pv 5) (fun _ _ => rfl)) (nomark _))))) (pss_one (ps_ret pe_bl)) pss_nil)))))
    (pss_one (ps_ret (pe_cmpR (op_eqDK K rfl hr.units) (pe_ca c_left_of hr (by decide) (by rfl) (pa_cons (pv 2) (pa_cons (pv 1) pa_nil))) (pe_ca c_left_of hr (by decide) (by rfl) (pa_cons (pv 0) (pa_cons (pv 1) pa_nil))) (nomark _))))))), ?_⟩
  have S : Sl K H _ [.d (dTab C), .d (dHid hs), .d (dTab M), .no, .no, .no, .no] := sl_begin hv n_can_be
  refine s_ifF (H0 := fun _ => none) ((b_or (b_not (b_B (e_isTup (e_var rfl)))) fun _ => b_test (e_neI (row1 (e_var rfl)) (row1 (e_var rfl)))).to (by rw [lM]; simp)) exN S fun H1 e1 S1 => ?_
  have zj := j_zipT (K := K) (H0 := fun _ => none) (Γ := [.d (dTab C), .d (dHid hs), .d (dTab M), .no, .no, .no, .no]) (e_var (n := 0) rfl) (e_var (n := 2) rfl) (tuOs_map _ tuO_row C) (tuOs_map _ tuO_row M)
  rw [dZip_map] at zj
  refine s_forP (H0 := fun _ => none) (Γ1 := [.d (dTab C), .d (dHid hs), .d (dTab M), .no, .no, .no, .no]) (js := [3, 4]) zj exN S1 (fun d => match d with | .tuple [x, y] => [.d (dTab C), .d (dHid hs), .d (dTab M), .d x, .d y, .no, .no] | _ => []) ⟨rfl, fun i e z => .inl z⟩ (fun d hd => ?_) (fun d hd D' σ' H' e2 S2 nx rt => ?_) fun σ' H' e2 S2 => ?_
  · obtain ⟨q, hq, rfl⟩ := List.mem_map.mp hd
    exact tg_2
  · obtain ⟨q, hq, rfl⟩ := List.mem_map.mp hd
    obtain ⟨hlen, hnn⟩ := feas_row hF hq
    have hq2 : q.2.length ≤ 6 := by
      have := List.of_mem_zip hq
      have := hC.rect _ this.1
      omega
    have S2 : Sl K H' σ' [.d (dTab C), .d (dHid hs), .d (dTab M), .d (dRow q.1), .d (dRow q.2), .no, .no] := S2
    refine s_ifF (H0 := fun _ => none) ((b_or (b_not (b_B (e_isTup (e_var rfl)))) fun _ => b_test (e_neI (e_lenT (e_var rfl)) (e_lenT (e_var rfl)))).to ?_) exN S2 fun H3 e3 S3 => ?_
    · rw [List.length_map, List.length_map, hlen]
      simp
    refine s_ifLF (H0 := fun _ => none) ((b_not (b_B (e_all (bs := q.2.map fun x => (true && decide (0 ≤ x))) ((l_lcA q.2 .int (fun x => .bool (true && decide (0 ≤ x))) _ (i_tup (e_var rfl)) (by omega) (js := [6]) (by simp) (fun _ _ => tg_name) (fun x _ => e_and (e_call x (a_cons (e_var rfl) a_nil) trivial fun _ p => p) fun _ => e_ge (e_var rfl) e_int) (fun _ => rfl)).eh.to (by rw [List.map_map]; rfl))))).to ?_) exN S3 fun H4 e4 S4 => nx _ _ (e3.trans e4) ((S4.clr 3).clr 4)
    have : (q.2.map fun x => (true && decide (0 ≤ x))).all id = true := by
      rw [List.all_map, List.all_eq_true]
      intro x hx
      show (true && decide (0 ≤ x)) = true
      rw [decide_eq_true (hnn x hx)]
      rfl
    rw [this]
    rfl
  refine s_forP (H0 := fun _ => none) (Γ1 := [.d (dTab C), .d (dHid hs), .d (dTab M), .no, .no, .no, .no]) (js := [3]) (j_range (row1 (e_var rfl)) (by omega)) exN S2 (fun d => [.d (dTab C), .d (dHid hs), .d (dTab M), .d d, .no, .no, .no]) ⟨rfl, fun i e z => .inl z⟩ (fun d hd => tg_name) (fun d hd D' σ' H' e3 S3 nx rt => ?_) fun σ' H' e3 S3 => ?_
  · obtain ⟨i, hi, rfl⟩ := dNs_mem hd
    refine s_forP (tz := tNext) (D := D') (H0 := fun _ => none) (Γ1 := [.d (dTab C), .d (dHid hs), .d (dTab M), .d (.int (i : Nat)), .no, .no, .no]) (js := [5]) (j_range (row0 hC (e_var rfl)) (by omega)) exN S3 (fun d => [.d (dTab C), .d (dHid hs), .d (dTab M), .d (.int (i : Nat)), .no, .d d, .no]) ⟨rfl, fun i e z => .inl z⟩ (fun d hd => tg_name) (fun d hd D2 σ4 H4 e4 S4 nx2 rt2 => ?_) fun σ4 H4 e4 S4 => nx _ _ e4 (S4.clr 3)
    obtain ⟨j, hj, rfl⟩ := dNs_mem hd
    have inC : inT C (i, j) := hC.inT hi hj
    have inM : inT M (i, j) := (inT_shp hF.shape _).mpr inC
    refine s_ifLF (H0 := fun _ => none) ((b_and (b_test (e_inTD (neg := true) (ds := hs.map dPl) (d := dPl (i, j)) (e_tup (a_cons (e_var rfl) (a_cons (e_var rfl) a_nil)) (by simp)) (e_var rfl) (shaped_pl _) (shaped_hid hs))) fun _ => b_test (e_neI (e_ixT (e_ixT (e_var rfl) (e_var rfl) (at_rowT (p := (i, j)) inM)) (e_var rfl) (at_cell (p := (i, j)) inM)) (e_ixT (e_ixT (e_var rfl) (e_var rfl) (at_rowT (p := (i, j)) inC)) (e_var rfl) (at_cell (p := (i, j)) inC)))).to ?_) exN S4 fun H5 e5 S5 => nx2 _ _ e5 (S5.clr 5)
    rw [any_pl]
    by_cases q : (i, j) ∈ hs
    · rw [decide_eq_true q]
      rfl
    · rw [decide_eq_false q, hF.off _ q]
      simp
  · refine s_ret (H0 := fun _ => none) ((e_eqD (e_call (d := dLeft _ _) (M, hs, C.length, wd C) (a_cons (e_var rfl) (a_cons (e_var rfl) a_nil)) (Sh.of hC hH hF.shape) fun _ p => p) (e_call (d := dLeft _ _) (C, hs, C.length, wd C) (a_cons (e_var rfl) (a_cons (e_var rfl) a_nil)) (Sh.of hC hH rfl) fun _ p => p) (shaped_left _ _) (shaped_left _ _)).to ?_) exN S3 fun v H4 e4 d4 => k v _ H4 (((e1.trans e2).trans e3).trans e4) d4 rfl
    have h1 : rowSums M hs C.length = rowSums C hs C.length := List.map_congr_left fun i _ => rowSum_eq hF.mar i
    have h2 : colSums M hs (wd C) = colSums C hs (wd C) := List.map_congr_left fun i _ => colSum_eq hF.mar i
    show PyData.bool (PyData.eqv (dLeft (rowSums M hs C.length) (colSums M hs (wd C))) (dLeft (rowSums C hs C.length) (colSums C hs (wd C)))) = _
    rw [h1, h2, eqv_same (shaped_left _ _)]
def spNumbers : PySem.W.Frag → Sp := spF (fun a : List Int × Nat => [dRow a.1, .int (a.2 : Nat)]) (fun a => a.1.length = a.2 ∧ a.2 ≤ 6) (fun _ d => d = .bool true)
theorem ok_are_numbers (F : Fn K mg "are_numbers" s_are_numbers p_are_numbers) (T : Tx0 K mg) (c_is_whole : Ca P w K mg base "is_whole" 1 p_is_whole (spWhole K)) : Ca P w K mg base "are_numbers" 2 p_are_numbers (spNumbers K) := by
  refine F.ca sc_are_numbers (spF_len (n := 2) fun _ => rfl) (fun f cdv A outer s H vs Q E hr h => ?_)
  obtain ⟨⟨a, n⟩, hv, ⟨hl, h6⟩, k⟩ := h
  have hl : a.length = n := hl
  have h6 : n ≤ 6 := h6
  have nd := sc_are_numbers.nd
  refine ⟨_, (pss_one (ps_ret (pe_and (pe_callB (ck_isiK K rfl) (by rfl) T.isinstance (by decide +kernel) (pa_cons (pv 0) (pa_cons (pe_bltn (v := .ty "tuple") (by rfl) T.tuple_ (by decide +kernel) rfl) pa_nil))) (pe_and (pe_cmpR op_eq (pe_callB (ck_lenK K rfl) (by rfl) T.len_ PySem.boot_len (pa_cons (pv 0) pa_nil)) (pv 1) (nomark _)) (pe_one (pe_callB (ck_allK K rfl rfl) (by rfl) T.all_ (by decide +kernel) (pa_cons (pe_lc (own := [("one", 2)]) rfl nd (pi_tupK K rfl (pv 0)) (blkOk_by (N := n_are_numbers) (sc := defScope s_are_numbers) (by decide +kernel)) (fun _ _ _ _ _ => (pg_name (i := 2) nd rfl (Or.inl rfl))) (fun _ _ _ _ _ => pts_nil) (fun _ _ _ _ _ => (pe_ca c_is_whole hr (by decide) (by rfl) (pa_cons (pv 2) pa_nil)))) pa_nil))))))), ?_⟩
  have S : Sl K H _ [.d (dRow a), .d (.int (n : Nat)), .no] := sl_begin hv n_are_numbers
  refine s_ret (H0 := fun _ => none) ((e_and (e_isTup (e_var rfl)) fun _ => e_and (e_eqI ((e_lenT (e_var rfl)).to (e := .int (n : Nat)) (by rw [List.length_map, hl])) (e_var rfl)) fun _ => e_all (bs := a.map fun _ => true) ((l_lcA a .int (fun x => .bool true) _ (i_tup (e_var rfl)) (by omega) (js := [2]) (by simp) (fun _ _ => tg_name) (fun x _ => e_call x (a_cons (e_var rfl) a_nil) trivial fun _ p => p) (fun _ => rfl)).eh.to (by rw [List.map_map]; rfl))).to ?_) exN S fun v H4 e4 d4 => k v _ H4 e4 d4 rfl
  simp
/-! papers -/
theorem l_catE {ds es : List PyData} (ha : Eh K H0 Γ ta (.list ds)) (hb : Eh K H0 Γ tb (.list es)) (hl : ds.length + es.length ≤ 100000) : Lh K H0 Γ (tOp rCat ta tb) (ds ++ es) := fun σ H e0 s Q q =>
  bin2 ha hb e0 s fun v w H2 e2 d1 d2 => by
    obtain ⟨p, xs, rfl, h3, h4⟩ := dp_lst d1
    obtain ⟨p', xs', rfl, h3', h4'⟩ := dp_lst d2
    exact ⟨p, p', xs, xs', rfl, rfl, h3, h3', by rw [dps_len h4, dps_len h4']; exact sz_of hl, fun r hr => q _ _ _ (fresh_back e2 hr) (e2.trans (Ex.new hr)) upd_same (dps_ex (Ex.new hr) _ _ (dps_app h4 h4'))⟩
structure Pp where
  C : Tab
  hs : List Pl
  p : Pl
  n : Int
  a : List Int
  b : List Int
  less : Bool
structure Pp.ok (x : Pp) : Prop where
  vc : VC x.C
  vh : VH x.C x.hs
  la : x.a.length = x.C.length
  lb : x.b.length = wd x.C
  sa : ∀ y ∈ x.a, -1 ≤ y ∧ y ≤ 1
  sb : ∀ y ∈ x.b, -1 ≤ y ∧ y ≤ 1
  pap : CPap x.less (tat x.C) x.hs x.p x.n (fun i => x.a.getD i 0) (fun j => x.b.getD j 0)
def spIsPaper : PySem.W.Frag → Sp := spF (fun x : Pp => [dTab x.C, dHid x.hs, dPl x.p, .int x.n, dPap x.a x.b, .bool x.less]) (fun x => x.ok) (fun _ d => d = .bool true)
theorem at_int {a : List Int} {i : Nat} (h : i < a.length) : atI (a.map PyData.int) ((i : Nat) : Int) = some (.int (a.getD i 0)) := atI_nat (by
  rw [List.getElem?_map, List.getElem?_eq_getElem h, List.getD_eq_getElem?_getD, List.getElem?_eq_getElem h]
  rfl)
theorem ok_is_paper (F : Fn K mg "is_paper" s_is_paper p_is_paper) (T : Tx0 K mg) (c_are_numbers : Ca P w K mg base "are_numbers" 2 p_are_numbers (spNumbers K)) (c_left_of : Ca P w K mg base "left_of" 1 p_left_of (spLeft K)) : Ca P w K mg base "is_paper" 3 p_is_paper (spIsPaper K) := by
  refine F.ca sc_is_paper (spF_len (n := 6) fun _ => rfl) (fun f cdv A outer s H vs Q E hr h => ?_)
  obtain ⟨⟨C, hs, p, n, a, b, less⟩, hv, ⟨hC, hH, la, lb, sa, sb, pap⟩, k⟩ := h
  have hC : VC C := hC
  have hH : VH C hs := hH
  have la : a.length = C.length := la
  have lb : b.length = wd C := lb
  have sa : ∀ y ∈ a, -1 ≤ y ∧ y ≤ 1 := sa
  have sb : ∀ y ∈ b, -1 ≤ y ∧ y ≤ 1 := sb
  have pap : CPap less (tat C) hs p n (fun i => a.getD i 0) (fun j => b.getD j 0) := pap
  have nd := sc_is_paper.nd
  have l6 := hC.l6
  have w6 := hC.w6
  refine ⟨_, (pss_cons (ps_if (PW.pt (pw_or (pt_not (pt_val (pe_callB (ck_isiK K rfl) (by rfl) T.isinstance (by decide +kernel) (pa_cons (pv 4) (pa_cons (pe_bltn (v := .ty "tuple") (by rfl) T.tuple_ (by decide +kernel) rfl) pa_nil))))) (pw_or1 (pt_cmpR op_ne (pe_callB (ck_lenK K rfl) (by rfl) T.len_ PySem.boot_len (pa_cons (pv 4) pa_nil)) pe_int (nomark _))))) (pss_one (ps_ret pe_bl)) pss_nil)
    (pss_cons (ps_asg (pv 4) (pg_tupK K rfl (n := 2) rfl (pgs_cons (pg_name (i := 7) nd rfl (Or.inl rfl)) (pgs_cons (pg_name (i := 8) nd rfl (Or.inl rfl)) pgs_nil))))
    (pss_cons (ps_if (PW.pt (pw_or (pt_not (pt_val (pe_ca c_are_numbers hr (by decide) (by rfl) (pa_cons (pv 7) (pa_cons (pe_callB (ck_lenK K rfl) (by rfl) T.len_ PySem.boot_len (pa_cons (pv 0) pa_nil)) pa_nil))))) (pw_or1 (pt_not (pt_val (pe_ca c_are_numbers hr (by decide) (by rfl) (pa_cons (pv 8) (pa_cons (pe_callB (ck_lenK K rfl) (by rfl) T.len_ PySem.boot_len (pa_cons (pe_ix (ix_tupK K rfl) (pv 0) pe_int (fun _ _ => rfl)) pa_nil)) pa_nil)))))))) (pss_one (ps_ret pe_bl)) pss_nil)
    (pss_cons (ps_for PassesOwn.never rfl (pi_tupK K rfl (pv 1)) (pg_tupK K rfl (n := 2) rfl (pgs_cons (pg_name (i := 9) nd rfl (Or.inl rfl)) (pgs_cons (pg_name (i := 10) nd rfl (Or.inl rfl)) pgs_nil))) (pss_cons (ps_set (i := 11) nd rfl (Or.inl rfl) (pe_op op_sub (pe_op op_add (pe_ix (ix_tupK K rfl) (pv 7) (pv 9) (fun _ _ => rfl)) (pe_ix (ix_tupK K rfl) (pv 8) (pv 10) (fun _ _ => rfl))) (pe_callTy ck_int (by rfl) T.int_ (by decide +kernel) (pa_cons (pe_cmpR (op_eqDK K rfl hr.units) (pe_tup (pa_cons (pv 9) (pa_cons (pv 10) pa_nil))) (pv 2) (nomark _)) pa_nil))))
    (pss_one (ps_if (PW.pt (pw_or (PW.pt (pw_and (pt_val (pv 5)) (pw_and1 (pt_cmpR op_gt (pv 11) pe_int (nomark _))))) (pw_or1 (PW.pt (pw_and (pt_not (pt_val (pv 5))) (pw_and1 (pt_cmpR op_lt (pv 11) pe_int (nomark _)))))))) (pss_one (ps_ret pe_bl)) pss_nil))))
    (pss_cons (ps_set (i := 6) nd rfl (Or.inl rfl) (pe_ca c_left_of hr (by decide) (by rfl) (pa_cons (pv 0) (pa_cons (pv 1) pa_nil))))
    (pss_one (ps_ret (pe_cmpR op_eq (pe_callB (ck_sumK K rfl rfl) (by rfl) T.sum_ (by decide +kernel) (pa_cons (pe_lc (own := [("one", 12), ("by", 13)]) rfl nd (pi_zipM (by rfl) T.zip_ (pa_cons (pe_op (op_catAK K rfl) (pv 7) (pv 8)) (pa_cons (pe_op op_cat (pe_ix (ix_tupK K rfl) (pv 6) pe_int (fun _ _ => rfl)) (pe_ix (ix_tupK K rfl) (pv 6) pe_int (fun _ _ => rfl))) pa_nil))) (blkOk_by (N := n_is_paper) (sc := defScope s_is_paper) (by decide +kernel)) (fun _ _ _ _ _ => (pg_tupK K rfl (n := 2) rfl (pgs_cons (pg_name (i := 12) nd rfl (Or.inl rfl)) (pgs_cons (pg_name (i := 13) nd rfl (Or.inl rfl)) pgs_nil)))) (fun _ _ _ _ _ => pts_nil) (fun _ _ _ _ _ => (pe_op op_mul (pv 12) (pv 13)))) pa_nil)) (pv 3) (nomark _))))))))), ?_⟩
  have S : Sl K H _ [.d (dTab C), .d (dHid hs), .d (dPl p), .d (.int n), .d (dPap a b), .d (.bool less), .no, .no, .no, .no, .no, .no, .no, .no] := sl_begin hv n_is_paper
  refine s_ifF (H0 := fun _ => none) ((b_or (b_not (b_B (e_isTup (e_var rfl)))) fun _ => b_test (e_neI (e_lenT (e_var rfl)) e_int)).to rfl) exN S fun H1 e1 S1 => ?_
  refine s_asgT (H0 := fun _ => none) (e_var rfl) tg_2 exN S1 fun σ2 H2 e2 S2 => ?_
  refine s_ifF (H0 := fun _ => none) ((b_or (b_not (b_B (e_call (a, C.length) (a_cons (e_var rfl) (a_cons (row1 (e_var rfl)) a_nil)) ⟨la, l6⟩ fun _ p => p))) fun _ => b_not (b_B (e_call (b, wd C) (a_cons (e_var rfl) (a_cons (row0 hC (e_var rfl)) a_nil)) ⟨lb, w6⟩ fun _ p => p))).to rfl) exN S2 fun H3 e3 S3 => ?_
  refine s_forP (H0 := fun _ => none) (Γ1 := [.d (dTab C), .d (dHid hs), .d (dPl p), .d (.int n), .d (dPap a b), .d (.bool less), .no, .d (dRow a), .d (dRow b), .no, .no, .no, .no, .no]) (js := [9, 10]) (j_tup (e_var rfl) (tuOs_map _ tuO_pl hs)) exN S3 (fun d => match d with | .tuple [x, y] => [.d (dTab C), .d (dHid hs), .d (dPl p), .d (.int n), .d (dPap a b), .d (.bool less), .no, .d (dRow a), .d (dRow b), .d x, .d y, .no, .no, .no] | _ => []) ⟨rfl, fun i e z => .inl z⟩ (fun d hd => ?_) (fun d hd D' σ' H' e4 S4 nx rt => ?_) fun σ' H' e4 S4 => ?_
  · obtain ⟨q, hq, rfl⟩ := List.mem_map.mp hd
    exact tg_2
  · obtain ⟨q, hq, rfl⟩ := List.mem_map.mp hd
    obtain ⟨q1, q2⟩ := hH.inr q hq
    have S4 : Sl K H' σ' [.d (dTab C), .d (dHid hs), .d (dPl p), .d (.int n), .d (dPap a b), .d (.bool less), .no, .d (dRow a), .d (dRow b), .d (.int (q.1 : Nat)), .d (.int (q.2 : Nat)), .no, .no, .no] := S4
    refine s_asg (H0 := fun _ => none) (e_sub (e_add (e_ixT (e_var rfl) (e_var rfl) (at_int (by omega))) (e_ixT (e_var rfl) (e_var rfl) (at_int (by omega)))) (e_intB (e_eqD (d := dPl q) (e_tup (a_cons (e_var rfl) (a_cons (e_var rfl) a_nil)) (by simp)) (e_var rfl) (shaped_pl _) (shaped_pl _)))) exN S4 fun σ5 H5 e5 S5 => ?_
    refine s_ifLF (H0 := fun _ => none) ((b_or (b_and (b_B (e_var rfl)) fun _ => b_test (e_gt (e_var rfl) e_int)) fun _ => b_and (b_not (b_B (e_var rfl))) fun _ => b_test (e_lt (e_var rfl) e_int)).to ?_) exN S5 fun H6 e6 S6 => nx _ _ (e5.trans e6) (((S6.clr 9).clr 10).clr 11)
    rw [eqv_pl]
    have hl := pap.lt
    have hg := pap.gt
    have ei : (if (decide (q = p)) = true then (1 : Int) else 0) = ind q p := by
      unfold ind
      by_cases e : q = p
      · rw [if_pos e, if_pos (by simpa using e)]
      · rw [if_neg e, if_neg (by simpa using e)]
    rw [ei]
    cases less with
    | true =>
      have h1 : a.getD q.1 0 + b.getD q.2 0 ≤ ind q p := hl rfl q hq
      rw [decide_eq_false (by omega)]
      rfl
    | false =>
      have h1 : ind q p ≤ a.getD q.1 0 + b.getD q.2 0 := hg rfl q hq
      have h2 : decide (a.getD q.1 0 + b.getD q.2 0 - ind q p < 0) = false := decide_eq_false (by omega)
      rw [h2]
      rfl
  refine s_asg (H0 := fun _ => none) (e_call (d := dLeft (rowSums C hs C.length) (colSums C hs (wd C))) (C, hs, C.length, wd C) (a_cons (e_var rfl) (a_cons (e_var rfl) a_nil)) (Sh.of hC hH rfl) fun _ p => p) exN S4 fun σ5 H5 e5 S5 => ?_
  have zi := i_zipM (K := K) (H0 := fun _ => none) (e_catT (ds := a.map .int) (es := b.map .int) (e_var (Γ := [.d (dTab C), .d (dHid hs), .d (dPl p), .d (.int n), .d (dPap a b), .d (.bool less), .d (dLeft (rowSums C hs C.length) (colSums C hs (wd C))), .d (dRow a), .d (dRow b), .no, .no, .no, .no, .no]) (n := 7) rfl) (e_var (n := 8) rfl) (by rw [List.length_map, List.length_map]; omega))
    (l_catE (ds := (rowSums C hs C.length).map .int) (es := (colSums C hs (wd C)).map .int) (e_ixT (e_var (n := 6) rfl) e_int at0) (e_ixT (e_var (n := 6) rfl) e_int at1) (by simp [rowSums, colSums]; omega)).eh (by simp [rowSums, colSums]; omega)
  rw [← List.map_append, ← List.map_append, dZip_map] at zi
  have hz : ((a ++ b).zip (rowSums C hs C.length ++ colSums C hs (wd C))).length ≤ 12 := by
    rw [List.length_zip, List.length_append]
    omega
  refine s_ret (H0 := fun _ => none) ((e_eqI (e_sum (ns := ((a ++ b).zip (rowSums C hs C.length ++ colSums C hs (wd C))).map fun q => q.1 * q.2) ((l_lcA ((a ++ b).zip (rowSums C hs C.length ++ colSums C hs (wd C))) (fun q => .tuple [.int q.1, .int q.2]) (fun q => .int (q.1 * q.2)) _ zi (by omega) (js := [12, 13]) (by simp) (fun _ _ => tg_2) (fun q hq => e_mul (e_var rfl) (e_var rfl) (.inl ?_)) (fun _ => rfl)).eh.to (by rw [List.map_map]; rfl))) (e_var rfl)).to ?_) exN S5 fun v H6 e6 d6 => k v _ H6 (((e1.trans e2).trans (e3.trans e4)).trans (e5.trans e6)) d6 rfl
  · have hm := (List.of_mem_zip hq).1
    rcases List.mem_append.mp hm with h | h
    · have := sa _ h
      constructor <;> omega
    · have := sb _ h
      constructor <;> omega
  · rw [paper_sum la lb (fun h hh => hH.inr h hh), pap.sum]
    simp
end
end Ak
set_option Elab.async false
set_option linter.all false
set_option maxRecDepth 100000
set_option maxHeartbeats 4000000
/-! AkF7: shows_bounds, given_away. -/
namespace Ak
open PySem PySem.Spec PyProof.Rows L2 Evl
structure Bd where
  C : Tab
  hs : List Pl
  p : Pl
  n : Int
  T : Tab
  a : List Int
  b : List Int
  less : Bool
structure Bd.ok (x : Bd) : Prop where
  vc : VC x.C
  vh : VH x.C x.hs
  hp : x.p ∈ x.hs
  good : Good x.less x.C x.hs x.p x.n x.T x.a x.b
section
variable {P : Program} {w : World} {K : PySem.W.Frag} {mg : Str → Option Value} {base : Heap} {H0 : Hp} {Γ : Env1} {ta tb te : TE} {d : PyData}
def spIsBound : PySem.W.Frag → Sp := spF (fun x : Bd => [dTab x.C, dHid x.hs, dPl x.p, .tuple [.int x.n, dTab x.T, dPap x.a x.b], .bool x.less]) (fun x => x.ok) (fun _ d => d = .bool true)
theorem ok_is_bound (F : Fn K mg "is_bound" s_is_bound p_is_bound) (T : Tx0 K mg) (c_is_whole : Ca P w K mg base "is_whole" 1 p_is_whole (spWhole K)) (c_can_be : Ca P w K mg base "can_be" 2 p_can_be (spCanBe K)) (c_is_paper : Ca P w K mg base "is_paper" 3 p_is_paper (spIsPaper K)) : Ca P w K mg base "is_bound" 4 p_is_bound (spIsBound K) := by
  refine F.ca sc_is_bound (spF_len (n := 5) fun _ => rfl) (fun f cdv A outer s H vs Q E hr h => ?_)
  obtain ⟨⟨C, hs, p, n, M, a, b, less⟩, hv, ⟨hC, hH, hp, G⟩, k⟩ := h
  have hC : VC C := hC
  have hH : VH C hs := hH
  have hp : p ∈ hs := hp
  have G : Good less C hs p n M a b := G
  have nd := sc_is_bound.nd
  have inM : inT M p := (inT_shp G.feas.shape p).mpr (hH.inT hC p hp)
  refine ⟨_, (pss_cons (ps_asg (pv 3) (pg_tupK K rfl (n := 3) rfl (pgs_cons (pg_name (i := 5) nd rfl (Or.inl rfl)) (pgs_cons (pg_name (i := 6) nd rfl (Or.inl rfl)) (pgs_cons (pg_name (i := 7) nd rfl (Or.inl rfl)) pgs_nil)))))
    (pss_cons (ps_if (PW.pt (pw_or (pt_not (pt_val (pe_ca c_is_whole hr (by decide) (by rfl) (pa_cons (pv 5) pa_nil)))) (pw_or (pt_not (pt_val (pe_ca c_can_be hr (by decide) (by rfl) (pa_cons (pv 0) (pa_cons (pv 1) (pa_cons (pv 6) pa_nil)))))) (pw_or1 (pt_cmpR op_ne (pe_ix (ix_tupK K rfl) (pe_ix (ix_tupK K rfl) (pv 6) (pe_ix (ix_tupK K rfl) (pv 2) pe_int (fun _ _ => rfl)) (fun _ _ => rfl)) (pe_ix (ix_tupK K rfl) (pv 2) pe_int (fun _ _ => rfl)) (fun _ _ => rfl)) (pv 5) (nomark _)))))) (pss_one (ps_ret pe_bl)) pss_nil)
    (pss_one (ps_ret (pe_ca c_is_paper hr (by decide) (by rfl) (pa_cons (pv 0) (pa_cons (pv 1) (pa_cons (pv 2) (pa_cons (pv 5) (pa_cons (pv 7) (pa_cons (pv 4) pa_nil))))))))))), ?_⟩
  have S : Sl K H _ [.d (dTab C), .d (dHid hs), .d (dPl p), .d (.tuple [.int n, dTab M, dPap a b]), .d (.bool less), .no, .no, .no] := sl_begin hv n_is_bound
  refine s_asgT (H0 := fun _ => none) (e_var rfl) tg_3 exN S fun σ2 H2 e2 S2 => ?_
  refine s_ifF (H0 := fun _ => none) ((b_or (b_not (b_B (e_call n (a_cons (e_var rfl) a_nil) trivial fun _ p => p))) fun _ => b_or (b_not (b_B (e_call (C, hs, M) (a_cons (e_var rfl) (a_cons (e_var rfl) (a_cons (e_var rfl) a_nil))) ⟨hC, hH, G.feas⟩ fun _ p => p))) fun _ =>
    b_test (e_neI (e_ixT (e_ixT (e_var rfl) (e_ixT (e_var rfl) e_int at0) (at_rowT inM)) (e_ixT (e_var rfl) e_int at1) (at_cell inM)) (e_var rfl))).to (by rw [G.val]; simp)) exN S2 fun H3 e3 S3 => ?_
  exact s_ret (H0 := fun _ => none) (e_call (⟨C, hs, p, n, a, b, less⟩ : Pp) (a_cons (e_var rfl) (a_cons (e_var rfl) (a_cons (e_var rfl) (a_cons (e_var rfl) (a_cons (e_var rfl) (a_cons (e_var rfl) a_nil)))))) ⟨hC, hH, G.la, G.lb, G.sa, G.sb, G.pap⟩ fun _ p => p) exN S3 fun v H4 e4 d4 => k v _ H4 ((e2.trans e3).trans e4) d4 rfl
structure Sb where
  C : Tab
  hs : List Pl
  p : Pl
  n : Int
  T1 : Tab
  a1 : List Int
  b1 : List Int
  m : Int
  T2 : Tab
  a2 : List Int
  b2 : List Int
structure Sb.ok (x : Sb) : Prop where
  vc : VC x.C
  vh : VH x.C x.hs
  hp : x.p ∈ x.hs
  lo : Good true x.C x.hs x.p x.n x.T1 x.a1 x.b1
  hi : Good false x.C x.hs x.p x.m x.T2 x.a2 x.b2
def spShows : PySem.W.Frag → Sp := spF (fun x : Sb => [dTab x.C, dHid x.hs, dPl x.p, dTold x.n x.T1 x.a1 x.b1 x.m x.T2 x.a2 x.b2]) (fun x => x.ok) (fun _ d => d = .bool true)
theorem cut_to3 (u v w x y z : PyData) : cutD [u, v, w, x, y, z] none (some 3) = [u, v, w] := by
  unfold cutD
  rw [show (some (3 : Int)) = some ((3 : Nat) : Int) from rfl, HT.sIx_nat, HT.sIx_none]
  rfl
theorem cut_from3 (u v w x y z : PyData) : cutD [u, v, w, x, y, z] (some 3) none = [x, y, z] := by
  unfold cutD
  rw [show (some (3 : Int)) = some ((3 : Nat) : Int) from rfl, HT.sIx_nat, HT.sIx_none]
  rfl
theorem ok_shows_bounds (F : Fn K mg "shows_bounds" s_shows_bounds p_shows_bounds) (T : Tx0 K mg) (c_need_place : Ca P w K mg base "need_place" 6 p_need_place (spNeedP K)) (c_is_bound : Ca P w K mg base "is_bound" 4 p_is_bound (spIsBound K)) : Ca P w K mg base "shows_bounds" 7 p_shows_bounds (spShows K) := by
  refine F.ca sc_shows_bounds (spF_len (n := 4) fun _ => rfl) (fun f cdv A outer s H vs Q E hr h => ?_)
  obtain ⟨⟨C, hs, p, n, T1, a1, b1, m, T2, a2, b2⟩, hv, ⟨hC, hH, hp, G1, G2⟩, k⟩ := h
  have hC : VC C := hC
  have hH : VH C hs := hH
  have hp : p ∈ hs := hp
  have nd := sc_shows_bounds.nd
  refine ⟨_, (pss_cons (ps_expr (pe_ca c_need_place hr (by decide) (by rfl) (pa_cons (pv 0) (pa_cons (pv 1) (pa_cons (pv 2) pa_nil)))))
    (pss_cons (ps_if (PW.pt (pw_or (pt_not (pt_val (pe_callB (ck_isiK K rfl) (by rfl) T.isinstance (by decide +kernel) (pa_cons (pv 3) (pa_cons (pe_bltn (v := .ty "tuple") (by rfl) T.tuple_ (by decide +kernel) rfl) pa_nil))))) (pw_or1 (pt_cmpR op_ne (pe_callB (ck_lenK K rfl) (by rfl) T.len_ PySem.boot_len (pa_cons (pv 3) pa_nil)) pe_int (nomark _))))) (pss_one (ps_ret pe_bl)) pss_nil)
    (pss_one (ps_ret (pe_and (pe_ca c_is_bound hr (by decide) (by rfl) (pa_cons (pv 0) (pa_cons (pv 1) (pa_cons (pv 2) (pa_cons (pe_slice (sl_tupK K rfl) (pv 3) po_none (po_some pe_int)) (pa_cons pe_bl pa_nil)))))) (pe_one (pe_ca c_is_bound hr (by decide) (by rfl) (pa_cons (pv 0) (pa_cons (pv 1) (pa_cons (pv 2) (pa_cons (pe_slice (sl_tupK K rfl) (pv 3) (po_some pe_int) po_none) (pa_cons pe_bl pa_nil)))))))))))), ?_⟩
  have S : Sl K H _ [.d (dTab C), .d (dHid hs), .d (dPl p), .d (dTold n T1 a1 b1 m T2 a2 b2)] := sl_begin hv n_shows_bounds
  refine s_drop (H0 := fun _ => none) (e_call (d := .none) (C, hs, p) (a_cons (e_var rfl) (a_cons (e_var rfl) (a_cons (e_var rfl) a_nil))) ⟨hC, hH, hp⟩ fun _ p => p) exN S fun H1 e1 S1 => ?_
  refine s_ifF (H0 := fun _ => none) ((b_or (b_not (b_B (e_isTup (e_var rfl)))) fun _ => b_test (e_neI (e_lenT (e_var rfl)) e_int)).to rfl) exN S1 fun H2 e2 S2 => ?_
  exact s_ret (H0 := fun _ => none) (e_and (e_call (⟨C, hs, p, n, T1, a1, b1, true⟩ : Bd) (a_cons (e_var rfl) (a_cons (e_var rfl) (a_cons (e_var rfl) (a_cons ((e_slT (e_var rfl) o_none (o_some e_int)).to (by rw [cut_to3])) (a_cons e_bl a_nil))))) ⟨hC, hH, hp, G1⟩ fun _ p => p) fun _ =>
    e_call (⟨C, hs, p, m, T2, a2, b2, false⟩ : Bd) (a_cons (e_var rfl) (a_cons (e_var rfl) (a_cons (e_var rfl) (a_cons ((e_slT (e_var rfl) (o_some e_int) o_none).to (by rw [cut_from3])) (a_cons e_bl a_nil))))) ⟨hC, hH, hp, G2⟩ fun _ p => p) exN S2 fun v H4 e4 d4 => k v _ H4 ((e1.trans e2).trans e4) d4 rfl
/-! given away -/
def Away (C : Tab) (hs : List Pl) (p : Pl) : Prop := ∃ n, Cert true (tat C) hs p n ∧ Cert false (tat C) hs p n
noncomputable def isAway (C : Tab) (hs : List Pl) (p : Pl) : Bool := @decide (Away C hs p) (Classical.propDecidable _)
noncomputable def awayL (C : Tab) (hs : List Pl) : List Pl := hs.filter (isAway C hs)
theorem isAway_iff {C : Tab} {hs : List Pl} {p : Pl} : isAway C hs p = true ↔ Away C hs p := by
  unfold isAway
  exact @decide_eq_true_iff _ (Classical.propDecidable _)
theorem isAway_of {C : Tab} {hs : List Pl} {p : Pl} {n m : Int} (nd : hs.Nodup) (hp : p ∈ hs) (a : Cert true (tat C) hs p n) (b : Cert false (tat C) hs p m) : decide (n = m) = isAway C hs p := by
  by_cases e : n = m
  · subst e
    rw [decide_eq_true rfl, isAway_iff.mpr ⟨n, a, b⟩]
  · rw [decide_eq_false e]
    cases h : isAway C hs p with
    | false => rfl
    | true =>
      obtain ⟨k, h1, h2⟩ := isAway_iff.mp h
      exact absurd ((a.uniq nd hp h1).trans (h2.uniq nd hp b)) e
def spAway : PySem.W.Frag → Sp := spF (fun a : Tab × List Pl => [dTab a.1, dHid a.2]) (fun a => VC a.1 ∧ VH a.1 a.2) (fun a d => d = dHid (awayL a.1 a.2))
theorem ok_given_away (F : Fn K mg "given_away" s_given_away p_given_away) (T : Tx0 K mg) (c_need_hidden : Ca P w K mg base "need_hidden" 5 p_need_hidden (spNeedH K)) (c_bounds_at : Ca P w K mg base "bounds_at" 7 p_bounds_at (spBounds K)) : Ca P w K mg base "given_away" 8 p_given_away (spAway K) := by
  refine F.ca sc_given_away (spF_len (n := 2) fun _ => rfl) (fun f cdv A outer s H vs Q E hr h => ?_)
  obtain ⟨⟨C, hs⟩, hv, ⟨hC, hH⟩, k⟩ := h
  have hC : VC C := hC
  have hH : VH C hs := hH
  have nd := sc_given_away.nd
  have hlen := hH.len hC
  refine ⟨_, (pss_cons (ps_expr (pe_ca c_need_hidden hr (by decide) (by rfl) (pa_cons (pv 0) (pa_cons (pv 1) pa_nil))))
    (pss_cons (ps_set (i := 2) nd rfl (Or.inl rfl) (pe_lst pa_nil))
    (pss_cons (ps_for PassesOwn.never rfl (pi_tupK K rfl (pv 1)) (pg_name (i := 3) nd rfl (Or.inl rfl)) (pss_cons (ps_set (i := 4) nd rfl (Or.inl rfl) (pe_ca c_bounds_at hr (by decide) (by rfl) (pa_cons (pv 0) (pa_cons (pv 1) (pa_cons (pv 3) pa_nil)))))
    (pss_one (ps_if (pt_cmpR op_eq (pe_ix (ix_tupK K rfl) (pv 4) pe_int (fun _ _ => rfl)) (pe_ix (ix_tupK K rfl) (pv 4) pe_int (fun _ _ => rfl)) (nomark _)) (pss_one (ps_expr (pe_bmK K rfl PySem.F.plainAttrs_list PySem.F.slot_list_append PySem.F.type_list_append mt_append (pv 2) (pa_cons (pv 3) pa_nil)))) pss_nil))))
    (pss_one (ps_ret (pe_callTy (ck_tupK K rfl) (by rfl) T.tuple_ (by decide +kernel) (pa_cons (pv 2) pa_nil))))))), ?_⟩
  have S : Sl K H _ [.d (dTab C), .d (dHid hs), .no, .no, .no] := sl_begin hv n_given_away
  refine s_drop (H0 := fun _ => none) (e_call (d := .none) (C, hs) (a_cons (e_var rfl) (a_cons (e_var rfl) a_nil)) ⟨hC, hH⟩ fun _ p => p) exN S fun H1 e1 S1 => ?_
  refine s_asgL (H0 := fun _ => none) (ds := []) (l_lst a_nil (by simp)) exN S1 fun σ2 H2 q qs hq e2 hq2 hqs S2 => ?_
  refine s_for (H0 := fun _ => none) (j_tup (e_var rfl) (tuOs_map _ tuO_pl hs)) exN S2 fun H3 e3 S3 => ?_
  refine ⟨fun i σ' H' => Ex H H' ∧ Tx K H3 H' ∧ ∃ xs, H' q = some (.lst xs) ∧ DqAll K H' xs (((hs.take i).filter (isAway C hs)).map dPl) ∧ Sl K H' σ' [.d (dTab C), .d (dHid hs), .v (.ref q), .no, .no], ⟨(e1.trans e2).trans e3, Tx.refl _, qs, e3 _ _ hq2, dps_ex e3 _ _ hqs, S3⟩, fun i σ' H' h => h.2.1, ?_, ?_⟩
  · rintro i d v σ' H4 H5 hd ⟨ex, tx, xs, hc, hx, S'⟩ e5 hv5
    obtain ⟨p, hp, rfl⟩ : ∃ p, hs[i]? = some p ∧ d = dPl p := by
      rw [List.getElem?_map] at hd
      cases hz : hs[i]? with
      | none => rw [hz] at hd; cases hd
      | some z => rw [hz] at hd; exact ⟨z, rfl, (Option.some.inj hd).symm⟩
    have hpm := List.mem_of_getElem? hp
    have ft := filt_take (isAway C hs) hs i _ hp
    have lx := dps_len hx
    have l2 := List.length_filter_le (isAway C hs) (hs.take i)
    simp only [List.length_map, List.length_take] at lx l2
    refine tg_name v σ' H5 _ hv5 (S'.ex e5) fun σ6 S6 _ => ?_
    refine s_asgP (H0 := fun _ => none) (p_call (C, hs, p) (a_cons (e_var rfl) (a_cons (e_var rfl) (a_cons (e_var rfl) a_nil))) ⟨hC, hH, hpm⟩) exN S6 fun σ7 H7 dt e7 pt S7 => ?_
    obtain ⟨n, T1, a1, b1, m, T2, a2, b2, rfl, G1, G2⟩ := pt
    have ia := isAway_of hH.nd hpm G1.cert G2.cert
    refine s_ifL (H0 := fun _ => none) (b_test (e_eqI (e_ixT (e_var rfl) e_int at0) (e_ixT (e_var rfl) e_int (atI_nat (j := 3) rfl)))) exN S7 (fun b H8 e8 S8 => ?_) (fun b H8 e8 S8 => ?_)
    · rw [ia] at b
      have e58 := e5.trans (e7.trans e8)
      refine s_appL (H0 := fun _ => none) (e_var rfl) exN S8 rfl (e58 _ _ hc) (by omega) fun H9 y e9 hy S9 => ?_
      have hc9 := (e58.trans e9) _ _ hc
      have tx8 : Tx K H9 (upd H9 q (.lst (xs ++ [y]))) := Tx.upd (noT_lst hc9)
      refine ⟨Ex.mut (ex.trans (e58.trans e9)) (fresh_back e1 hq), tx.trans ((Tx.of (e58.trans e9)).trans tx8), _, upd_same, ?_, ((S9.clr 3).clr 4).tx (by simp [En.ok, tuO_tab, tuO_hid]) tx8⟩
      rw [ft, b, if_pos rfl, List.map_append]
      exact dps_app (dps_tx tx8 _ _ (tuOs_map _ tuO_pl _) (dps_ex (e58.trans e9) _ _ hx)) (.cons (dp_tx tx8 _ _ (tuO_pl p) hy) .nil)
    · rw [ia] at b
      have e58 := e5.trans (e7.trans e8)
      refine ⟨ex.trans e58, tx.trans (Tx.of e58), xs, e58 _ _ hc, ?_, (S8.clr 3).clr 4⟩
      rw [ft, b, if_neg (by simp), List.append_nil]
      exact dps_ex e58 _ _ hx
  · rintro σ' H' ⟨ex, tx, xs, hc, hx, S'⟩
    rw [List.length_map, List.take_length] at hx
    exact s_ret (H0 := H') (e_tupOf (e_varB (v := .ref q) rfl (Dq.lst hc hx))) (Ex.refl _) S' fun v H8 e8 d8 => k v _ H8 (ex.trans e8) d8 rfl
end
end Ak
set_option Elab.async false
set_option linter.all false
set_option maxRecDepth 100000
set_option maxHeartbeats 4000000
/-! AkP: the pot of the law: what changes when something is taken. -/
namespace Ak
open PySem PySem.Spec PyProof.Rows L2 Evl
/-- all but pp stays -/
def Xp (pp : Addr) (H H' : Hp) : Prop := ∀ a o, a ≠ pp → H a = some o → H' a = some o
structure PotAt (H : Hp) (pp : Addr) (k : Nat) : Prop where
  ex : ∃ x y z : Int, H pp = some (.lst [.int x, .int y, .int z]) ∧ 0 ≤ x ∧ 0 ≤ y ∧ y < 2305843009213693951 ∧ 0 ≤ z ∧ z ≤ k
section
variable {P : Program} {w : World} {K : PySem.W.Frag} {mg : Str → Option Value} {base : Heap} {H0 H H' H1 : Hp} {Γ : Env1} {ta tb te : TE} {d : PyData} {pp q : Addr} {k k1 k2 : Nat} {σ : Sg}
theorem Xp.refl (pp : Addr) (H : Hp) : Xp pp H H := fun _ _ _ h => h
theorem Xp.trans (a : Xp pp H H') (b : Xp pp H' H1) : Xp pp H H1 := fun x o n h => b x o n (a x o n h)
theorem Xp.of (e : Ex H H') : Xp pp H H' := fun _ _ _ h => e _ _ h
theorem Xp.mut {o : HO} (e : Xp pp H H') (h : H q = none) : Xp pp H (upd H' q o) := fun a u n ha => by
  have ne : a ≠ q := by rintro rfl; rw [h] at ha; cases ha
  rw [upd_ne ne]
  exact e a u n ha
theorem Xp.at {o : HO} : Xp pp H (upd H pp o) := fun a u n ha => by rw [upd_ne n]; exact ha
theorem Xp.tx (e : Xp pp H H') (p : PotAt H pp k) : Tx K H H' := fun a xs h => e a _ (by
  rintro rfl
  obtain ⟨x, y, z, g, _⟩ := p
  rw [h] at g
  cases g) h
theorem Xp.ex (e : Xp pp H H') (h : H0 pp = none) (e0 : Ex H0 H) : Ex H0 H' := fun a o ha => e a o (by rintro rfl; rw [h] at ha; cases ha) (e0 a o ha)
theorem PotAt.ex' (p : PotAt H pp k) (e : Ex H H') : PotAt H' pp k := by
  obtain ⟨x, y, z, g, r⟩ := p
  exact ⟨x, y, z, e _ _ g, r⟩
theorem PotAt.mono (p : PotAt H pp k) (h : k ≤ k1) : PotAt H pp k1 := by
  obtain ⟨x, y, z, g, r1, r2, r3, r4, r5⟩ := p
  exact ⟨x, y, z, g, r1, r2, r3, r4, by omega⟩
theorem PotAt.upd {o : HO} (p : PotAt H pp k) (h : q ≠ pp) : PotAt (L2.upd H q o) pp k := by
  obtain ⟨x, y, z, g, r⟩ := p
  exact ⟨x, y, z, by rw [upd_ne (Ne.symm h)]; exact g, r⟩
theorem PotAt.ne (p : PotAt H pp k) (h : H q = none) : q ≠ pp := by
  rintro rfl
  obtain ⟨x, y, z, g, _⟩ := p
  rw [h] at g
  cases g
/-- o[j] = e, o a list -/
theorem s_setL {n j : Nat} {p : Addr} {xs : List V} {i : Int} {tz : TS} {D : Ends} (h : Eh K H0 Γ te (.int i)) (e0 : Ex H0 H) (s : Sl K H σ Γ) (ok : Γ.all En.ok = true) (hn : Γ[n]? = some (.v (.ref p))) (hl : H p = some (.lst xs)) (hj : j < xs.length)
    (kk : ∀ H1, Ex H H1 → Sl K (upd H1 p (.lst (xs.set j (.int i)))) σ Γ → tz D σ (upd H1 p (.lst (xs.set j (.int i))))) : tSeq (tAsg te (gSub (tVar n) (tC (.int (j : Nat))) rSetL)) tz D σ H :=
  h σ H e0 s _ fun v H1 e1 h1 => by
    cases dp_int h1
    refine ⟨_, (s.ex e1).val hn, p, xs, _, j, rfl, rfl, e1 _ _ hl, ixN_nat hj, ?_⟩
    exact kk H1 e1 ((s.ex e1).tx ok (Tx.upd (noT_lst (e1 _ _ hl))))
theorem e_powB {i j : Int} (ha : Eh K H0 Γ ta (.int i)) (hb : Eh K H0 Γ tb (.int j)) (hc : CPowB i j) : Eh K H0 Γ (tOp (rI CPowB fun i j => .int (i ^ j.toNat)) ta tb) (.int (i ^ j.toNat)) := e_rI ha hb hc fun _ => .int _
theorem cpow {i j : Int} (h0 : 0 ≤ i) (h1 : i < 2 ^ 70) (j0 : 0 ≤ j) (j1 : j ≤ 10) : CPowB i j := by
  refine ⟨j0, ?_⟩
  have hb : Builtin.Int.intBits i ≤ 70 := intBits_le_iff.mpr (by omega)
  have h2 : (Builtin.Int.intBits i : Int) * j ≤ 70 * 10 := Int.mul_le_mul (by omega) j1 j0 (by omega)
  have : (70 * 10 : Int) ≤ 2 ^ 27 := by decide
  omega
theorem e_con {v : V} (h : Dq K H0 v d) : Eh K H0 Γ (tC v) d := fun σ H e0 s Q q => q v H (Ex.refl H) (dp_ex e0 _ _ h)
def spTake (K : PySem.W.Frag) : Sp := fun vs H Q _ => ∃ (pp : Addr) (m : Int) (k : Nat), vs = [.ref pp, .int m] ∧ PotAt H pp k ∧ k ≤ 1000000 ∧ 1 ≤ m ∧ m < 1073741824 ∧
  ∀ i H', Xp pp H H' → PotAt H' pp (k + 1) → 0 ≤ i → i < m → Q (.int i) H'
theorem ok_law_take (F : Fn K mg "_law_take" s_law_take p_law_take) (T : Tx0 K mg) : Ca P w K mg base "_law_take" 1 p_law_take (spTake K) := by
  refine F.ca sc_law_take (fun vs H Q E h => by obtain ⟨pp, m, k, rfl, _⟩ := h; rfl) (fun f cdv A outer s H vs Q E hr h => ?_)
  obtain ⟨pp, m, k, rfl, ⟨x, y, z, hp, hx, hy, hy2, hz, hzk⟩, hk, m1, m2, kk⟩ := h
  have nd := sc_law_take.nd
  refine ⟨_, (pss_cons (ps_if (pt_cmpR op_gt (pe_ix (ix_listK K rfl) (pv 0) pe_int (fun _ _ => rfl)) pe_int (nomark _)) (pss_cons (ps_set (i := 4) nd rfl (Or.inl rfl) (pe_op op_mod (pe_ix (ix_listK K rfl) (pv 0) pe_int (fun _ _ => rfl)) (pv 1)))
    (pss_cons (ps_asg (pe_op op_fdiv (pe_ix (ix_listK K rfl) (pv 0) pe_int (fun _ _ => rfl)) (pv 1)) (pg_sub (pv 0) pe_int set_list))
    (pss_one (ps_ret (pv 4))))) pss_nil)
    (pss_cons (ps_asg (pe_op op_add (pe_ix (ix_listK K rfl) (pv 0) pe_int (fun _ _ => rfl)) pe_int) (pg_sub (pv 0) pe_int set_list))
    (pss_cons (ps_set (i := 2) nd rfl (Or.inl rfl) (pe_op op_mod (pe_op op_powB (pe_op op_add (pe_ix (ix_listK K rfl) (pv 0) pe_int (fun _ _ => rfl)) (pe_op op_mul pe_int (pe_ix (ix_listK K rfl) (pv 0) pe_int (fun _ _ => rfl)))) pe_int) pe_int))
    (pss_cons (ps_set (i := 3) nd rfl (Or.inl rfl) (pe_op op_mod (pe_op op_powB (pe_op op_add (pe_op op_add (pv 2) (pe_op op_mod (pe_ix (ix_listK K rfl) (pv 0) pe_int (fun _ _ => rfl)) pe_int)) (pe_op op_mul pe_int (pe_ix (ix_listK K rfl) (pv 0) pe_int (fun _ _ => rfl)))) pe_int) pe_int))
    (pss_one (ps_ret (pe_op op_mod (pe_op op_fdiv (pv 3) pe_int) (pv 1)))))))), ?_⟩
  have S : Sl K H _ [.v (.ref pp), .v (.int m), .no, .no, .no] := sl_vals (vs := [.ref pp, .int m]) n_law_take
  have pd : ∀ (H : Hp) (a b c : Int), H pp = some (.lst [.int a, .int b, .int c]) → Dq K H (.ref pp) (.list [.int a, .int b, .int c]) := fun H a b c h => .lst h (.cons (.int _) (.cons (.int _) (.cons (.int _) .nil)))
  refine s_if (H0 := H) (b_test (e_gt (e_ixL (e_varB rfl (pd _ _ _ _ hp)) e_int at0) e_int)) (Ex.refl _) S (fun b H1 e1 S1 => ?_) (fun b H1 e1 S1 => ?_)
  · have hp1 := e1 _ _ hp
    refine s_asg (H0 := H1) (e_mod (e_ixL (e_varB rfl (pd _ _ _ _ hp1)) e_int at0) (e_varB rfl (.int m)) (by omega)) (Ex.refl _) S1 fun σ2 H2 e2 S2 => ?_
    have hp2 := e2 _ _ hp1
    refine s_setL (H0 := H2) (j := 0) (e_fdiv (e_ixL (e_varB rfl (pd _ _ _ _ hp2)) e_int at0) (e_varB rfl (.int m)) ⟨by omega, m2⟩) (Ex.refl _) S2 rfl rfl hp2 (by simp) fun H3 e3 S3 => ?_
    refine s_ret (H0 := fun _ => none) (e_var rfl) exN S3 fun v H4 e4 d4 => ?_
    cases dp_int d4
    have hmod := Int.emod_nonneg x (show m ≠ 0 by omega)
    have hmod2 := Int.emod_lt_of_pos x (show 0 < m by omega)
    refine kk _ H4 (((Xp.of (e1.trans (e2.trans e3))).trans Xp.at).trans (Xp.of e4)) ⟨x / m, y, z, e4 _ _ upd_same, Int.ediv_nonneg hx (by omega), hy, hy2, hz, by omega⟩ hmod hmod2
  · have hp1 := e1 _ _ hp
    refine s_setL (H0 := H1) (j := 2) (e_add (e_ixL (e_varB rfl (pd _ _ _ _ hp1)) e_int at2) e_int) (Ex.refl _) S1 rfl rfl hp1 (by simp) fun H2 e2 S2 => ?_
    have hp2 : (upd H2 pp (.lst ([V.int x, .int y, .int z].set 2 (.int (z + 1))))) pp = some (.lst [.int x, .int y, .int (z + 1)]) := upd_same
    have xp2 : Xp pp H (upd H2 pp (.lst ([V.int x, .int y, .int z].set 2 (.int (z + 1))))) := (Xp.of (e1.trans e2)).trans Xp.at
    generalize upd H2 pp (.lst ([V.int x, .int y, .int z].set 2 (.int (z + 1)))) = H2' at *
    refine s_asg (H0 := H2') (e_mod (e_powB (e_add (e_ixL (e_varB rfl (pd _ _ _ _ hp2)) e_int at1) (e_mul e_int (e_ixL (e_varB rfl (pd _ _ _ _ hp2)) e_int at2) (.inl (by decide)))) e_int (cpow (by omega) (by omega) (by decide) (by decide))) e_int (by decide)) (Ex.refl _) S2 fun σ3 H3 e3 S3 => ?_
    have hp3 := e3 _ _ hp2
    have h1a := Int.emod_nonneg ((y + 104729 * (z + 1)) ^ (3 : Int).toNat) (show (2305843009213693921 : Int) ≠ 0 by decide)
    have h1b := Int.emod_lt_of_pos ((y + 104729 * (z + 1)) ^ (3 : Int).toNat) (show (0 : Int) < 2305843009213693921 by decide)
    generalize (y + 104729 * (z + 1)) ^ (3 : Int).toNat % 2305843009213693921 = one at *
    have h2a := Int.emod_nonneg y (show (65537 : Int) ≠ 0 by decide)
    have h2b := Int.emod_lt_of_pos y (show (0 : Int) < 65537 by decide)
    refine s_asg (H0 := H3) (e_mod (e_powB (e_add (e_add (e_var rfl) (e_mod (e_ixL (e_varB rfl (pd _ _ _ _ hp3)) e_int at1) e_int (by decide))) (e_mul e_int (e_ixL (e_varB rfl (pd _ _ _ _ hp3)) e_int at2) (.inl (by decide)))) e_int (cpow (by omega) (by omega) (by decide) (by decide))) e_int (by decide)) (Ex.refl _) S3 fun σ4 H4 e4 S4 => ?_
    generalize (one + y % 65537 + 31 * (z + 1)) ^ (5 : Int).toNat % 2305843009213693907 = other at *
    refine s_ret (H0 := H4) (e_mod (e_fdiv (e_var rfl) e_int ⟨by decide, by decide⟩) (e_varB rfl (.int m)) (by omega)) (Ex.refl _) S4 fun v H5 e5 d5 => ?_
    cases dp_int d5
    have hmod := Int.emod_nonneg (other / 1024) (show m ≠ 0 by omega)
    have hmod2 := Int.emod_lt_of_pos (other / 1024) (show 0 < m by omega)
    exact kk _ H5 (xp2.trans (Xp.of (e3.trans (e4.trans e5)))) ⟨x, y, z + 1, (e4.trans e5) _ _ hp3, hx, hy, hy2, by omega, by omega⟩ hmod hmod2
/-- the script's list: frozen or of the module -/
theorem sql_ex {a : Addr} {xs : List V} (h : SqL K H a xs) (e : Ex H H') : SqL K H' a xs := by
  rcases h with (h | ⟨o, h⟩) | h
  · exact .inl (.inl (e _ _ h))
  · exact .inl (.inr ⟨o, e _ _ h⟩)
  · exact .inr h
theorem e_lenQ {n : Nat} {a : Addr} {xs : List V} (hn : Γ[n]? = some (.v (.ref a))) (h : SqL K H0 a xs) : Eh K H0 Γ (tCB (rLenS K) (tCons (tVar n) tNil)) (.int (xs.length : Nat)) := fun σ H e0 s Q q =>
  ⟨_, s.val hn, a, xs, rfl, .inl (sql_ex h e0), q _ H (Ex.refl H) (.int _)⟩
theorem e_ixQ {n i : Nat} {a : Addr} {ns : List Int} (hn : Γ[n]? = some (.v (.ref a))) (h : SqL K H0 a (ns.map V.int)) (hb : Eh K H0 Γ tb (.int (i : Nat))) (hi : i < ns.length) : Eh K H0 Γ (tOp (rIxL K) (tVar n) tb) (.int (ns.getD i 0)) := fun σ H e0 s Q q =>
  ⟨_, s.val hn, hb σ H e0 s _ fun w H1 e1 h1 => ⟨a, _, _, .int (ns.getD i 0), rfl, dp_int h1, sql_ex h (e0.trans e1), atI_nat (by
    rw [List.getElem?_map, List.getElem?_eq_getElem hi, List.getD_eq_getElem?_getD, List.getElem?_eq_getElem hi]
    rfl), q _ H1 e1 (.int _)⟩⟩
def spPot (K : PySem.W.Frag) : Sp := fun vs H Q _ => ∃ (a : Addr) (ns : List Int) (i : Nat), vs = [.ref a, .int (i : Nat)] ∧ SqL K H a (ns.map V.int) ∧ i ≤ 63 ∧
  ∀ pp H', H pp = none → Ex H H' → PotAt H' pp 0 → Q (.ref pp) H'
theorem e_abs {i : Int} (ha : Eh K H0 Γ ta (.int i)) : Eh K H0 Γ (tCB (fun xs H Q => ∃ i, xs = [V.int i] ∧ Q (.int (if i < 0 then -i else i)) H) (tCons ta tNil)) (.int (if i < 0 then -i else i)) := e_cb1 ha fun v H Q h q => ⟨i, by rw [dp_int h], q _ H (Ex.refl H) (.int _)⟩
theorem ok_law_pot (F : Fn K mg "_law_pot" s_law_pot p_law_pot) (T : Tx0 K mg) : Ca P w K mg base "_law_pot" 1 p_law_pot (spPot K) := by
  refine F.ca sc_law_pot (fun vs H Q E h => by obtain ⟨a, ns, i, rfl, _⟩ := h; rfl) (fun f cdv A outer s H vs Q E hr h => ?_)
  obtain ⟨sa, ns, i, rfl, hv, hi, kk⟩ := h
  have nd := sc_law_pot.nd
  refine ⟨_, (pss_cons (ps_set (i := 2) nd rfl (Or.inl rfl) pe_int)
    (pss_cons (ps_if (pt_cmpR op_lt (pv 1) (pe_callB (ck_lenK K rfl) (by rfl) T.len_ PySem.boot_len (pa_cons (pv 0) pa_nil)) (nomark _)) (pss_one (ps_set (i := 2) nd rfl (Or.inl rfl) (pe_op op_mod (pe_callB call_abs (by rfl) T.abs_ (by decide +kernel) (pa_cons (pe_ix (ix_listK K rfl) (pv 0) (pv 1) (fun _ _ => rfl)) pa_nil)) (pe_op op_powB (pe_op op_powB pe_int pe_int) pe_int)))) pss_nil)
    (pss_one (ps_ret (pe_lst (pa_cons (pe_op op_mul (pv 2) (pe_callTy ck_int (by rfl) T.int_ (by decide +kernel) (pa_cons (pe_cmpR op_ge (pv 2) (pe_op op_powB pe_int pe_int) (nomark _)) pa_nil))) (pa_cons (pe_op op_mod (pe_op op_powB (pe_op op_add (pe_op op_add (pe_op op_mod (pv 2) pe_int) (pe_op op_mul pe_int (pv 1))) pe_int) pe_int) pe_int) (pa_cons pe_int pa_nil)))))))), ?_⟩
  have S : Sl K H _ [.v (.ref sa), .v (.int (i : Nat)), .no] := sl_vals (vs := [.ref sa, .int (i : Nat)]) n_law_pot
  refine s_asg (H0 := H) e_int (Ex.refl _) S fun σ1 H1 e1 S1 => ?_
  refine s_via (fun σ' H' => ∃ c : Int, 0 ≤ c ∧ Ex H H' ∧ Sl K H' σ' [.v (.ref sa), .v (.int (i : Nat)), .d (.int c)]) ?_ ?_
  · rintro σ2 H2 ⟨c, hc, e2, S2⟩
    have b01 : ∀ b : Bool, (-(2 ^ 64) : Int) < (if b then 1 else 0) ∧ (if b then (1 : Int) else 0) < 2 ^ 64 := fun b => by cases b <;> decide
    have nn01 : ∀ b : Bool, (0 : Int) ≤ (if b then 1 else 0) := fun b => by cases b <;> decide
    have hm0 := Int.emod_nonneg c (show (2147483629 : Int) ≠ 0 by decide)
    have hm1 := Int.emod_lt_of_pos c (show (0 : Int) < 2147483629 by decide)
    refine s_retL (H0 := fun _ => none) (l_lst (a_cons (e_mul (e_var rfl) (e_intB (e_ge (e_var rfl) (e_powB e_int e_int (by unfold CPowB; decide +kernel)))) (.inr (b01 _))) (a_cons (e_mod (e_powB (e_add (e_add (e_mod (e_var rfl) e_int (by decide)) (e_mul e_int (e_varB rfl (.int _)) (.inl (by decide)))) e_int) e_int (cpow (by omega) (by omega) (by decide) (by decide))) e_int (by decide)) (a_cons e_int a_nil))) (by simp)) exN S2 fun p xs H3 hp e3 h3 d3 => ?_
    refine kk p H3 (fresh_back e2 hp) (e2.trans e3) ?_
    cases d3 with
    | cons a t => cases t with
      | cons b t => cases t with
        | cons c' t =>
          cases t
          cases a; cases b; cases c'
          exact ⟨_, _, _, h3, Int.mul_nonneg hc (nn01 _), Int.emod_nonneg _ (by decide), Int.emod_lt_of_pos _ (by decide), by decide, by decide⟩
  · intro D' nx
    refine s_ifL (H0 := H1) (b_test (e_lt (e_varB rfl (.int _)) ((e_lenQ rfl (sql_ex hv e1)).to (by rw [List.length_map])))) (Ex.refl _) S1 (fun b H2 e2 S2 => ?_) (fun b H2 e2 S2 => ?_)
    · have hlt : i < ns.length := by
        have := of_decide_eq_true b
        omega
      have hv2 := sql_ex hv (e1.trans e2)
      refine (e_mod (H0 := H2) (j := (10 ^ (60 : Int).toNat) ^ (10 : Int).toNat) (e_abs (e_ixQ rfl hv2 (e_varB rfl (.int _)) hlt)) (e_powB (e_powB e_int e_int (by unfold CPowB; decide +kernel)) e_int (by unfold CPowB; decide +kernel)) (by decide +kernel)) _ H2 (Ex.refl _) S2 _ fun u H3 e3 d3 => ?_
      exact nx _ _ ⟨_, Int.emod_nonneg _ (by decide +kernel), (e1.trans e2).trans e3, (S2.ex e3).setD (i := 2) d3⟩
    · exact nx _ _ ⟨0, by decide, e1.trans e2, S2⟩
end
end Ak
set_option Elab.async false
set_option linter.all false
set_option maxRecDepth 100000
set_option maxHeartbeats 4000000
/-! AkG1: what the law makes: counts, places, others. -/
namespace Ak
open PySem PySem.Spec PyProof.Rows L2 Evl
/-- an expression that may take from the pot, and gives an atom of which P is true -/
def Mv (K : PySem.W.Frag) (pp : Addr) (Γ : Env1) (te : TE) (k k' : Nat) (R : V → Prop) : Prop := ∀ (σ : Sg) (H : Hp), Sl K H σ Γ → PotAt H pp k → ∀ Q : VK, (∀ v H', Xp pp H H' → PotAt H' pp k' → R v → Q v H') → te σ H Q
def Ma (K : PySem.W.Frag) (pp : Addr) (Γ : Env1) (ta : TA) (k k' : Nat) (R : List V → Prop) : Prop := ∀ (σ : Sg) (H : Hp), Sl K H σ Γ → PotAt H pp k → ∀ Q : List V → Hp → Prop, (∀ vs H', Xp pp H H' → PotAt H' pp k' → R vs → Q vs H') → ta σ H Q
def isI (p : Int → Prop) (v : V) : Prop := ∃ i, v = .int i ∧ p i
section
variable {P : Program} {w : World} {K : PySem.W.Frag} {mg : Str → Option Value} {base : Heap} {H0 H H' H1 : Hp} {Γ : Env1} {ta tb te : TE} {d : PyData} {pp q : Addr} {k k1 k2 : Nat} {σ : Sg} {R R1 R2 : V → Prop}
theorem mv_int {i : Int} (h : Eh K (fun _ => none) Γ te (.int i)) : Mv K pp Γ te k k (isI fun j => j = i) := fun σ H s p Q q => h σ H exN s Q fun v H1 e1 d1 => q v H1 (Xp.of e1) (p.ex' e1) ⟨i, dp_int d1, rfl⟩
theorem mv_bl {b : Bool} (h : Eh K (fun _ => none) Γ te (.bool b)) : Mv K pp Γ te k k (fun v => ∃ b, v = .bl b) := fun σ H s p Q q => h σ H exN s Q fun v H1 e1 d1 => q v H1 (Xp.of e1) (p.ex' e1) ⟨b, dp_bl d1⟩
theorem mv_take {n : Nat} {m : Int} {E : XK} (hn : Γ[n]? = some (.v (.ref pp))) (h : Eh K (fun _ => none) Γ te (.int m)) (m1 : 1 ≤ m) (m2 : m < 1073741824) (hk : k ≤ 1000000) : Mv K pp Γ (tCall (spTake K) [] E (tCons (tVar n) (tCons te tNil))) k (k + 1) (isI fun i => 0 ≤ i ∧ i < m) := fun σ H s p Q q =>
  ⟨_, s.val hn, h σ H exN s _ fun v H1 e1 d1 => ⟨pp, m, k, by rw [dp_int d1]; rfl, p.ex' e1, hk, m1, m2, fun i H2 x2 p2 h1 h2 => q _ H2 ((Xp.of e1).trans x2) p2 ⟨i, rfl, h1, h2⟩⟩⟩
theorem mv_weak (h : Mv K pp Γ te k k1 R) (hR : ∀ v, R v → R1 v) : Mv K pp Γ te k k1 R1 := fun σ H s p Q q => h σ H s p Q fun v H1 x1 p1 r => q v H1 x1 p1 (hR v r)
/-- two operands -/
theorem mv_bin {f : L2.R2} (ok : Γ.all En.ok = true) (ha : Mv K pp Γ ta k k1 R1) (hb : Mv K pp Γ tb k1 k2 R2) (hf : ∀ x y H Q, R1 x → R2 y → (∀ v, R v → Q v H) → f x y H Q) : Mv K pp Γ (tOp f ta tb) k k2 R := fun σ H s p Q q =>
  ha σ H s p _ fun x H1 x1 p1 r1 => hb σ H1 (s.tx ok (x1.tx p)) p1 _ fun y H2 x2 p2 r2 => hf x y H2 Q r1 r2 fun v r => q v H2 (x1.trans x2) p2 r
theorem mv_rI0 {g : Int → Int → V} {p1 p2 : Int → Prop} (ok : Γ.all En.ok = true) (ha : Mv K pp Γ ta k k1 (isI p1)) (hb : Mv K pp Γ tb k1 k2 (isI p2)) (hf : ∀ i j, p1 i → p2 j → R (g i j)) : Mv K pp Γ (tOp (rI0 g) ta tb) k k2 R :=
  mv_bin ok ha hb fun x y H Q ⟨i, e1, h1⟩ ⟨j, e2, h2⟩ q => ⟨i, j, e1, e2, q _ (hf i j h1 h2)⟩
theorem mv_rI {C : Int → Int → Prop} {g : Int → Int → V} {p1 p2 : Int → Prop} (ok : Γ.all En.ok = true) (ha : Mv K pp Γ ta k k1 (isI p1)) (hb : Mv K pp Γ tb k1 k2 (isI p2)) (hc : ∀ i j, p1 i → p2 j → C i j) (hf : ∀ i j, p1 i → p2 j → R (g i j)) : Mv K pp Γ (tOp (rI C g) ta tb) k k2 R :=
  mv_bin ok ha hb fun x y H Q ⟨i, e1, h1⟩ ⟨j, e2, h2⟩ q => ⟨i, j, e1, e2, hc i j h1 h2, q _ (hf i j h1 h2)⟩
theorem mv_eq {p1 p2 : Int → Prop} (ok : Γ.all En.ok = true) (ha : Mv K pp Γ ta k k1 (isI p1)) (hb : Mv K pp Γ tb k1 k2 (isI p2)) : Mv K pp Γ (tOp rEq ta tb) k k2 (fun v => ∃ b, v = .bl b) :=
  mv_bin ok ha hb fun x y H Q ⟨i, e1, h1⟩ ⟨j, e2, h2⟩ q => by
    subst e1 e2
    exact ⟨rfl, q _ ⟨_, rfl⟩⟩
theorem mv_intB (ha : Mv K pp Γ te k k1 (fun v => ∃ b, v = .bl b)) : Mv K pp Γ (tCB rInt1 (tCons te tNil)) k k1 (isI fun i => i = 0 ∨ i = 1) := fun σ H s p Q q =>
  ha σ H s p _ fun v H1 x1 p1 ⟨b, e⟩ => .inr ⟨b, by rw [e], q _ H1 x1 p1 ⟨_, rfl, by cases b <;> simp⟩⟩
theorem ma_nil : Ma K pp Γ tNil k k (fun vs => vs = []) := fun σ H s p Q q => q _ H (Xp.refl _ _) p rfl
theorem ma_cons {tr : TA} {Rr : List V → Prop} (ok : Γ.all En.ok = true) (ha : Mv K pp Γ te k k1 R) (hr : Ma K pp Γ tr k1 k2 Rr) : Ma K pp Γ (tCons te tr) k k2 (fun vs => ∃ v r, vs = v :: r ∧ R v ∧ Rr r) := fun σ H s p Q q =>
  ha σ H s p _ fun v H1 x1 p1 r1 => hr σ H1 (s.tx ok (x1.tx p)) p1 _ fun vs H2 x2 p2 r2 => q _ H2 (x1.trans x2) p2 ⟨v, vs, rfl, r1, r2⟩
/-- x = e -/
theorem s_asgM {i : Nat} {tz : TS} {D : Ends} (h : Mv K pp Γ te k k1 R) (ok : Γ.all En.ok = true) (s : Sl K H σ Γ) (p : PotAt H pp k) (kk : ∀ σ' H' v, Xp pp H H' → PotAt H' pp k1 → R v → Sl K H' σ' (Γ.set i (.v v)) → tz D σ' H') : tSeq (tAsg te (gName i)) tz D σ H :=
  h σ H s p _ fun v H1 x1 p1 r => kk _ H1 v x1 p1 r ((s.tx ok (x1.tx p)).setV)
theorem s_asgMi {i : Nat} {tz : TS} {D : Ends} {pr : Int → Prop} (h : Mv K pp Γ te k k1 (isI pr)) (ok : Γ.all En.ok = true) (s : Sl K H σ Γ) (p : PotAt H pp k) (kk : ∀ σ' H' j, Xp pp H H' → PotAt H' pp k1 → pr j → Sl K H' σ' (Γ.set i (.d (.int j))) → tz D σ' H') : tSeq (tAsg te (gName i)) tz D σ H :=
  h σ H s p _ fun v H1 x1 p1 ⟨j, e, r⟩ => kk _ H1 j x1 p1 r ((s.tx ok (x1.tx p)).setD (by rw [e]; exact .int j))
theorem s_parM {i j : Nat} {tz : TS} {D : Ends} {p1 p2 : Int → Prop} (ha : Mv K pp Γ ta k k1 (isI p1)) (hb : Mv K pp Γ tb k1 k2 (isI p2)) (ok : Γ.all En.ok = true) (s : Sl K H σ Γ) (p : PotAt H pp k)
    (kk : ∀ σ' H' x y, Xp pp H H' → PotAt H' pp k2 → p1 x → p2 y → Sl K H' σ' ((Γ.set i (.d (.int x))).set j (.d (.int y))) → tz D σ' H') : tSeq (tPar i j (tCons ta (tCons tb tNil))) tz D σ H :=
  ha σ H s p _ fun v H1 x1 q1 ⟨x, e1, r1⟩ => hb σ H1 (s.tx ok (x1.tx p)) q1 _ fun u H2 x2 q2 ⟨y, e2, r2⟩ =>
    ⟨v, u, rfl, kk _ H2 x y (x1.trans x2) q2 r1 r2 (((s.tx ok ((x1.trans x2).tx p)).setD (by rw [e1]; exact .int x)).setD (by rw [e2]; exact .int y))⟩
/-- l.append(e), e an atom -/
theorem s_appM {p : Addr} {xs : List V} {n : Nat} {D : Ends} (h : Mv K pp Γ te k k1 R) (ok : Γ.all En.ok = true) (s : Sl K H σ Γ) (pt : PotAt H pp k) (hn : Γ[n]? = some (.v (.ref p))) (hl : H p = some (.lst xs)) (hpp : p ≠ pp) (hz : xs.length < 100000)
    (kk : ∀ H1 v, Xp pp H H1 → PotAt H1 pp k1 → R v → Sl K H1 σ Γ → H1 p = some (.lst xs) → D.nx σ (upd H1 p (.lst (xs ++ [v])))) : tDrop (tBM K "list" rAppend (tVar n) (tCons te tNil)) D σ H :=
  ⟨_, s.val hn, .inl ⟨rfl, xs, SqL.of hl⟩, h σ H s pt _ fun v H1 x1 p1 r => ⟨p, xs, v, rfl, rfl, x1 _ _ hpp hl, sz_lt hz, kk H1 v x1 p1 r (s.tx ok (x1.tx pt)) (x1 _ _ hpp hl)⟩⟩
/-- [..][i] of atoms -/
theorem mv_pick {tr : TA} {Rr : List V → Prop} {i : Int} (ok : Γ.all En.ok = true) (ha : Ma K pp Γ tr k k1 Rr) (hb : Eh K (fun _ => none) Γ tb (.int i)) (hz : ∀ vs, Rr vs → vs.length ≤ 100000) (hR : ∀ vs, Rr vs → ∃ v, atI vs i = some v ∧ R v) : Mv K pp Γ (tOp (rIxL K) (tLst tr) tb) k k1 R := fun σ H s p Q q =>
  ha σ H s p _ fun vs H1 x1 p1 r1 => ⟨sz_of (hz vs r1), fun a ha => hb σ _ exN ((s.tx ok (x1.tx p)).ex (Ex.new ha)) _ fun u H2 e2 d2 => by
    obtain ⟨v, h1, h2⟩ := hR vs r1
    exact ⟨a, vs, i, v, rfl, dp_int d2, SqL.of (e2 _ _ upd_same), h1, q v H2 (x1.trans ((Xp.of (Ex.new ha)).trans (Xp.of e2))) ((p1.ex' (Ex.new ha)).ex' e2) h2⟩⟩
def spLCounts (K : PySem.W.Frag) : Sp := fun vs H Q _ => ∃ (pp : Addr) (k : Nat), vs = [.ref pp] ∧ PotAt H pp k ∧ k ≤ 1000 ∧ ∀ v C H', Xp pp H H' → PotAt H' pp (k + 1000) → Dq K H' v (dTab C) → VC C → Q v H'
theorem nine : ∀ H : Hp, Dq K H (.int ((10 : Int) ^ (9 : Int).toNat)) (.int 1000000000) := fun H => by
  have : ((10 : Int) ^ (9 : Int).toNat) = 1000000000 := by decide
  rw [this]
  exact .int _
theorem e_nine : Eh K H0 Γ (tOp (rI CPowB fun i j => .int (i ^ j.toNat)) (tC (.int 10)) (tC (.int 9))) (.int 1000000000) := (e_powB e_int e_int (cpow (by decide) (by decide) (by decide) (by decide))).to (by
  have : ((10 : Int) ^ (9 : Int).toNat) = 1000000000 := by decide
  rw [this])
theorem ok_law_counts (F : Fn K mg "_law_counts" s_law_counts p_law_counts) (T : Tx0 K mg) (c_law_take : Ca P w K mg base "_law_take" 1 p_law_take (spTake K)) : Ca P w K mg base "_law_counts" 2 p_law_counts (spLCounts K) := by
  refine F.ca sc_law_counts (fun vs H Q E h => by obtain ⟨pp, k, rfl, _⟩ := h; rfl) (fun f cdv A outer s H vs Q E hr h => ?_)
  obtain ⟨pp, k, rfl, pot, hk, kk⟩ := h
  have nd := sc_law_counts.nd
  refine ⟨_, (pss_cons (ps_par (i := 4) (j := 5) rfl nd rfl rfl (by decide) rfl rfl (pa_cons (pe_op op_add pe_int (pe_ca c_law_take hr (by decide) (by rfl) (pa_cons (pv 0) (pa_cons pe_int pa_nil)))) (pa_cons (pe_op op_add pe_int (pe_ca c_law_take hr (by decide) (by rfl) (pa_cons (pv 0) (pa_cons pe_int pa_nil)))) pa_nil)) rfl)
    (pss_cons (ps_set (i := 1) nd rfl (Or.inl rfl) (pe_ca c_law_take hr (by decide) (by rfl) (pa_cons (pv 0) (pa_cons pe_int pa_nil))))
    (pss_cons (ps_set (i := 2) nd rfl (Or.inl rfl) (pe_lst pa_nil))
    (pss_cons (ps_for PassesOwn.never rfl (pi_range1 (by rfl) T.range_ (pa_cons (pv 4) pa_nil)) (pg_name (i := 3) nd rfl (Or.inl rfl)) (pss_cons (ps_set (i := 6) nd rfl (Or.inl rfl) (pe_lst pa_nil))
    (pss_cons (ps_for PassesOwn.never rfl (pi_range1 (by rfl) T.range_ (pa_cons (pv 5) pa_nil)) (pg_name (i := 7) nd rfl (Or.inl rfl)) (pss_cons (ps_set (i := 8) nd rfl (Or.inl rfl) (pe_op op_mul (pe_ca c_law_take hr (by decide) (by rfl) (pa_cons (pv 0) (pa_cons pe_int pa_nil))) (pe_callTy ck_int (by rfl) T.int_ (by decide +kernel) (pa_cons (pe_cmpR op_gt (pe_ca c_law_take hr (by decide) (by rfl) (pa_cons (pv 0) (pa_cons pe_int pa_nil))) pe_int (nomark _)) pa_nil))))
    (pss_one (ps_expr (pe_bmK K rfl PySem.F.plainAttrs_list PySem.F.slot_list_append PySem.F.type_list_append mt_append (pv 6) (pa_cons (pe_ix (ix_listK K rfl) (pe_lst (pa_cons (pv 8) (pa_cons pe_int (pa_cons (pe_ca c_law_take hr (by decide) (by rfl) (pa_cons (pv 0) (pa_cons pe_int pa_nil))) (pa_cons (pe_ca c_law_take hr (by decide) (by rfl) (pa_cons (pv 0) (pa_cons (pe_op op_add (pe_op op_powB pe_int pe_int) pe_int) pa_nil))) (pa_cons (pe_op op_sub (pe_op op_powB pe_int pe_int) (pv 8)) pa_nil)))))) (pv 1) (fun _ _ => rfl)) pa_nil))))))
    (pss_one (ps_expr (pe_bmK K rfl PySem.F.plainAttrs_list PySem.F.slot_list_append PySem.F.type_list_append mt_append (pv 2) (pa_cons (pe_callTy (ck_tupK K rfl) (by rfl) T.tuple_ (by decide +kernel) (pa_cons (pv 6) pa_nil)) pa_nil)))))))
    (pss_one (ps_ret (pe_callTy (ck_tupK K rfl) (by rfl) T.tuple_ (by decide +kernel) (pa_cons (pv 2) pa_nil)))))))), ?_⟩
  have S : Sl K H _ [.v (.ref pp), .no, .no, .no, .no, .no, .no, .no, .no] := sl_vals (vs := [.ref pp]) n_law_counts
  refine s_parM (p1 := fun i => 1 ≤ i ∧ i ≤ 6) (p2 := fun i => 1 ≤ i ∧ i ≤ 6) (mv_rI0 rfl (mv_int e_int) (mv_take (n := 0) rfl e_int (by decide) (by decide) (by omega)) fun i j h1 h2 => ⟨_, rfl, by omega, by omega⟩) (mv_rI0 rfl (mv_int e_int) (mv_take (n := 0) rfl e_int (by decide) (by decide) (by omega)) fun i j h1 h2 => ⟨_, rfl, by omega, by omega⟩) rfl S pot fun σ1 H1 x y x1 pot1 hx hy S1 => ?_
  obtain ⟨M, rfl⟩ : ∃ M : Nat, x = (M : Int) := ⟨x.toNat, by omega⟩
  obtain ⟨W, rfl⟩ : ∃ W : Nat, y = (W : Int) := ⟨y.toNat, by omega⟩
  refine s_asgMi (mv_take (n := 0) rfl e_int (by decide) (by decide) (by omega)) rfl S1 pot1 fun σ2 H2 way x2 pot2 hway S2 => ?_
  refine s_asgL (H0 := fun _ => none) (ds := []) (l_lst a_nil (by simp)) exN S2 fun σ3 H3 fq fqs hfq e3 hfq3 hfqs S3 => ?_
  have xp3 : Xp pp H H3 := (x1.trans x2).trans (Xp.of e3)
  have pot3 := pot2.ex' e3
  have hfqp : fq ≠ pp := pot2.ne hfq
  have hW : W ≤ 6 := by omega
  have hM : M ≤ 6 := by omega
  have hfqH : ∀ {Ha : Hp}, Xp pp Ha H2 → Ha fq = none := fun {Ha} x => by
    cases hz : Ha fq with
    | none => rfl
    | some o => rw [x fq o hfqp hz] at hfq; cases hfq
  refine s_for (H0 := fun _ => none) (j_range (n := M) (e_var rfl) (by omega)) exN S3 fun H4 e4 S4 => ?_
  refine ⟨fun i σ' H' => Xp pp H H' ∧ Tx K H4 H' ∧ PotAt H' pp (k + 3 + 60 * i) ∧ ∃ xs rows, H' fq = some (.lst xs) ∧ DqAll K H' xs (rows.map dRow) ∧ rows.length = i ∧ (∀ r ∈ rows, r.length = W ∧ ∀ x ∈ r, 0 ≤ x ∧ x ≤ 1000000000) ∧
    Sl K H' σ' [.v (.ref pp), .d (.int way), .v (.ref fq), .no, .d (.int M), .d (.int W), .no, .no, .no], ⟨xp3.trans (Xp.of e4), Tx.refl _, (pot3.ex' e4).mono (by omega), fqs, [], e4 _ _ hfq3, dps_ex e4 _ _ hfqs, rfl, (fun r h => absurd h (by simp)), S4⟩, fun i σ' H' h => h.2.1, ?_, ?_⟩
  · rintro i d v σ' H5 H6 hd ⟨xp, tx, pot5, xs, rows, hl, hrows, hlen, hgood, S'⟩ e6 hv6
    have hi : i < M := by
      have := (List.getElem?_eq_some_iff.mp hd).1
      simpa [dNs] using this
    have ed : d = .int (i : Nat) := by
      unfold dNs at hd
      rw [List.getElem?_map, List.getElem?_range hi] at hd
      exact (Option.some.inj hd).symm
    subst ed
    refine tg_name v σ' H6 _ hv6 (S'.ex e6) fun σ7 S7 _ => ?_
    refine s_asgL (H0 := fun _ => none) (ds := []) (l_lst a_nil (by simp)) exN S7 fun σ8 H8 lq lqs hlq e8 hlq8 hlqs S8 => ?_
    have pot8 := (pot5.ex' e6).ex' e8
    have hlqp : lq ≠ pp := (pot5.ex' e6).ne hlq
    have hlf : lq ≠ fq := by
      rintro rfl
      rw [e6 _ _ hl] at hlq
      cases hlq
    have xp8 : Xp pp H H8 := xp.trans (Xp.of (e6.trans e8))
    have hlqH : H lq = none := by
      cases hz : H lq with
      | none => rfl
      | some o => rw [e6 _ _ (xp lq o hlqp hz)] at hlq; cases hlq
    have hfq8 : H8 fq = some (.lst xs) := (e6.trans e8) _ _ hl
    refine s_for (H0 := fun _ => none) (j_range (n := W) (e_var rfl) (by omega)) exN S8 fun H9 e9 S9 => ?_
    refine ⟨fun j σ' H' => Xp pp H H' ∧ Tx K H9 H' ∧ PotAt H' pp (k + 3 + 60 * i + 6 * j) ∧ H' fq = some (.lst xs) ∧ ∃ ns : List Int, H' lq = some (.lst (ns.map V.int)) ∧ ns.length = j ∧ (∀ x ∈ ns, 0 ≤ x ∧ x ≤ 1000000000) ∧
      Sl K H' σ' [.v (.ref pp), .d (.int way), .v (.ref fq), .d (.int (i : Nat)), .d (.int M), .d (.int W), .v (.ref lq), .no, .no], ⟨xp8.trans (Xp.of e9), Tx.refl _, (pot8.ex' e9).mono (by omega), e9 _ _ hfq8, [], by
        cases hlqs
        exact e9 _ _ hlq8, rfl, (fun x h => absurd h (by simp)), S9⟩, fun i σ' H' h => h.2.1, ?_, ?_⟩
    · rintro j d v σa Ha Hb hd ⟨xpa, txa, pota, hfa, ns, hla, hns, hnsg, Sa⟩ eb hvb
      have hj : j < W := by
        have := (List.getElem?_eq_some_iff.mp hd).1
        simpa [dNs] using this
      have ed : d = .int (j : Nat) := by
        unfold dNs at hd
        rw [List.getElem?_map, List.getElem?_range hj] at hd
        exact (Option.some.inj hd).symm
      subst ed
      refine tg_name v σa Hb _ hvb (Sa.ex eb) fun σc Sc _ => ?_
      have potb := pota.ex' eb
      refine s_asgMi (k1 := k + 3 + 60 * i + 6 * j + 1 + 1) (pr := fun f => 0 ≤ f ∧ f ≤ 7) (mv_rI (p1 := fun f => 0 ≤ f ∧ f < 8) (p2 := fun f => f = 0 ∨ f = 1) rfl (mv_take (n := 0) rfl e_int (by decide) (by decide) (by omega)) (mv_intB (mv_rI0 rfl (mv_take (n := 0) rfl e_int (by decide) (by decide) (by omega)) (mv_int e_int) fun i j h1 h2 => ⟨_, rfl⟩))
        (fun i j h1 h2 => .inl (by constructor <;> omega)) (fun i j h1 h2 => ⟨_, rfl, by rcases h2 with h | h <;> (subst h; omega), by rcases h2 with h | h <;> (subst h; omega)⟩)) rfl Sc potb fun σd Hd few xd potd hfew Sd => ?_
      have hlb : Hb lq = some (.lst (ns.map V.int)) := eb _ _ hla
      have hld : Hd lq = some (.lst (ns.map V.int)) := xd _ _ hlqp hlb
      refine s_appM (R := isI fun x => 0 ≤ x ∧ x ≤ 1000000000) (mv_pick rfl (ma_cons rfl (mv_int (e_var rfl)) (ma_cons rfl (mv_int e_int) (ma_cons rfl (mv_take (n := 0) rfl e_int (by decide) (by decide) (by omega)) (ma_cons rfl (mv_take (n := 0) rfl (e_add e_nine e_int) (by decide) (by decide) (by omega)) (ma_cons rfl (mv_int (e_sub e_nine (e_var rfl))) ma_nil))))) (e_var rfl) ?_ ?_) rfl Sd potd rfl hld hlqp (by rw [List.length_map]; omega) fun He v2 xe pote hv2 Se hle => ?_
      · rintro vs ⟨a, _, rfl, _, b, _, rfl, _, c, _, rfl, _, d, _, rfl, _, e, _, rfl, _, rfl⟩
        simp
      · rintro vs ⟨_, _, rfl, ⟨a, rfl, ha⟩, _, _, rfl, ⟨b, rfl, hb⟩, _, _, rfl, ⟨c, rfl, hc⟩, _, _, rfl, ⟨d, rfl, hd⟩, _, _, rfl, ⟨e, rfl, he⟩, rfl⟩
        obtain ⟨wn, rfl⟩ : ∃ wn : Nat, way = (wn : Int) := ⟨way.toNat, by omega⟩
        match wn, hway with
        | 0, _ => exact ⟨_, atI_nat rfl, _, rfl, by omega, by omega⟩
        | 1, _ => exact ⟨_, atI_nat rfl, _, rfl, by omega, by omega⟩
        | 2, _ => exact ⟨_, atI_nat rfl, _, rfl, by omega, by omega⟩
        | 3, _ => exact ⟨_, atI_nat rfl, _, rfl, by omega, by omega⟩
        | 4, _ => exact ⟨_, atI_nat rfl, _, rfl, by omega, by omega⟩
        | n + 5, h => exact absurd h.2 (by omega)
      · obtain ⟨x, rfl, hx⟩ := hv2
        have tx2 : Tx K He (upd He lq (.lst (ns.map V.int ++ [V.int x]))) := Tx.upd (noT_lst hle)
        have xpe : Xp pp H He := (xpa.trans (Xp.of eb)).trans (xd.trans xe)
        refine ⟨xpe.mut hlqH, txa.trans (((Tx.of eb).trans (xd.tx potb)).trans ((xe.tx potd).trans tx2)), (pote.upd hlqp).mono (by omega), ?_, ns ++ [x], by rw [List.map_append]; exact upd_same, by rw [List.length_append, hns]; rfl, fun y hy => ?_, ((Se.clr 7).clr 8).tx rfl tx2⟩
        · rw [upd_ne hlf.symm]
          exact xe _ _ hfqp (xd _ _ hfqp (eb _ _ hfa))
        · rcases List.mem_append.mp hy with h | h
          · exact hnsg y h
          · rw [List.mem_singleton.mp h]
            exact hx
    · rintro σa Ha ⟨xpa, txa, pota, hfa, ns, hla, hns, hnsg, Sa⟩
      have lW : (dNs W).length = W := by simp [dNs]
      rw [lW] at pota hns
      have hxl := dps_len hrows
      rw [List.length_map] at hxl
      refine s_appL (H0 := Ha) (e_tupOf (ds := ns.map .int) (e_varB (v := .ref lq) rfl (Dq.lst hla (ints_dps ns)))) (Ex.refl _) Sa rfl hfa (by omega) fun Hb y eb hy Sb => ?_
      have hfb := eb _ _ hfa
      have tx2 : Tx K Hb (upd Hb fq (.lst (xs ++ [y]))) := Tx.upd (noT_lst hfb)
      have txx : Tx K H5 Hb := (((Tx.of e6).trans (Tx.of e8)).trans (Tx.of e9)).trans (txa.trans (Tx.of eb))
      refine ⟨(xpa.trans (Xp.of eb)).mut (hfqH (x1.trans x2)), tx.trans (txx.trans tx2), ((pota.ex' eb).upd hfqp).mono (by omega), xs ++ [y], rows ++ [ns], upd_same, ?_, by rw [List.length_append, hlen]; rfl, fun r hr => ?_, ((Sb.clr 3).clr 6).tx rfl tx2⟩
      · rw [List.map_append]
        exact dps_app (dps_tx (txx.trans tx2) _ _ (tuOs_map _ tuO_row _) hrows) (.cons (dp_tx tx2 _ _ (tuO_row ns) hy) .nil)
      · rcases List.mem_append.mp hr with h | h
        · exact hgood r h
        · rw [List.mem_singleton.mp h]
          exact ⟨hns, hnsg⟩
  · rintro σ' H5 ⟨xp, tx, pot5, xs, rows, hl, hrows, hlen, hgood, S'⟩
    have lM : (dNs M).length = M := by simp [dNs]
    rw [lM] at hlen pot5
    refine s_ret (H0 := H5) (e_tupOf (e_varB (v := .ref fq) rfl (Dq.lst hl hrows))) (Ex.refl _) S' fun v H6 e6 d6 => ?_
    have hw : wd rows = W := (hgood _ (getD_mem (show 0 < rows.length by omega) _)).1
    exact kk v rows H6 (xp.trans (Xp.of e6)) ((pot5.ex' e6).mono (by omega)) d6 ⟨by omega, by omega, by rw [hw]; omega, by rw [hw]; omega, fun r hr => by rw [hw]; exact (hgood r hr).1, fun r hr x hx => ((hgood r hr).2 x hx).1, fun r hr x hx => ((hgood r hr).2 x hx).2⟩
end
end Ak
set_option Elab.async false
set_option linter.all false
set_option maxRecDepth 100000
set_option maxHeartbeats 4000000
/-! AkG2: hidden places, ends, others. -/
namespace Ak
open PySem PySem.Spec PyProof.Rows L2 Evl
theorem getD_app_lt {α : Type} {xs ys : List α} {i : Nat} {d : α} (h : i < xs.length) : (xs ++ ys).getD i d = xs.getD i d := by
  rw [List.getD_eq_getElem?_getD, List.getD_eq_getElem?_getD, List.getElem?_append_left h]
theorem getD_app_eq {α : Type} {xs : List α} {y d : α} : (xs ++ [y]).getD xs.length d = y := by
  rw [List.getD_eq_getElem?_getD, List.getElem?_append_right (Nat.le_refl _)]
  simp
theorem dNs_at {n i : Nat} {d : PyData} (hd : (dNs n)[i]? = some d) : i < n ∧ d = .int (i : Nat) := by
  have hi : i < n := by
    have := (List.getElem?_eq_some_iff.mp hd).1
    simpa [dNs] using this
  unfold dNs at hd
  rw [List.getElem?_map, List.getElem?_range hi] at hd
  exact ⟨hi, (Option.some.inj hd).symm⟩
theorem dNs_len (n : Nat) : (dNs n).length = n := by simp [dNs]
/-- values at the start, some told by data -/
inductive Mx (K : PySem.W.Frag) (H : Hp) : List V → Env1 → Prop
  | nil : Mx K H [] []
  | v {x : V} {vs : List V} {Γ : Env1} : Mx K H vs Γ → Mx K H (x :: vs) (.v x :: Γ)
  | d {x : V} {e : PyData} {vs : List V} {Γ : Env1} : Dq K H x e → Mx K H vs Γ → Mx K H (x :: vs) (.d e :: Γ)
theorem Mx.at {K : PySem.W.Frag} {H : Hp} : ∀ {vs : List V} {Γ : Env1}, Mx K H vs Γ → vs.length = Γ.length ∧ ∀ (i : Nat) (e : En), Γ[i]? = some e → ∃ v, vs[i]? = some v ∧ Eok K H e (some (some v))
  | _, _, .nil => ⟨rfl, fun i e h => by simp at h⟩
  | _, _, .v t => ⟨by simp [(Mx.at t).1], fun i e h => by
    cases i with
    | zero =>
      simp only [List.getElem?_cons_zero, Option.some.injEq] at h
      subst h
      exact ⟨_, rfl, rfl⟩
    | succ i => simpa using (Mx.at t).2 i e (by simpa using h)⟩
  | _, _, .d a t => ⟨by simp [(Mx.at t).1], fun i e h => by
    cases i with
    | zero =>
      simp only [List.getElem?_cons_zero, Option.some.injEq] at h
      subst h
      exact ⟨_, rfl, _, rfl, a⟩
    | succ i => simpa using (Mx.at t).2 i e (by simpa using h)⟩
theorem sl_mix {K : PySem.W.Frag} {H : Hp} {vs : List V} {Γ : Env1} (h : Mx K H vs Γ) (N : List Str) : Sl K H (L2.start N vs) (Γ ++ noEn (N.length - vs.length)) := by
  obtain ⟨hl, hg⟩ := h.at
  refine ⟨by simp [L2.start, noEn, hl], fun i e he => ?_⟩
  by_cases hi : i < Γ.length
  · rw [List.getElem?_append_left hi] at he
    obtain ⟨v, h1, h2⟩ := hg i e he
    show Eok K H e (vs.map some ++ List.replicate (N.length - vs.length) none)[i]?
    rw [List.getElem?_append_left (by simpa [hl] using hi), List.getElem?_map, h1]
    exact h2
  · rw [List.getElem?_append_right (by omega)] at he
    unfold noEn at he
    have := List.mem_of_getElem? he
    rw [List.mem_replicate] at this
    rw [this.2]
    exact True.intro
section
variable {P : Program} {w : World} {K : PySem.W.Frag} {mg : Str → Option Value} {base : Heap} {H0 H H' H1 : Hp} {Γ : Env1} {ta tb te : TE} {d : PyData} {pp q : Addr} {k k1 k2 : Nat} {σ : Sg}
/-- what was fresh behind the pot's changes, was fresh ahead of them -/
theorem Xp.back (x : Xp pp H H') (h : H' q = none) (n : q ≠ pp) : H q = none := by
  cases hz : H q with
  | none => rfl
  | some o => rw [x q o n hz] at h; cases h
theorem s_asgML {i : Nat} {tr : TA} {Rr : List V → Prop} {tz : TS} {D : Ends} (h : Ma K pp Γ tr k k1 Rr) (ok : Γ.all En.ok = true) (hz : ∀ vs, Rr vs → vs.length ≤ 100000) (s : Sl K H σ Γ) (p : PotAt H pp k)
    (kk : ∀ σ' H' a xs, Xp pp H H' → PotAt H' pp k1 → H' a = some (.lst xs) → Rr xs → Sl K H' σ' (Γ.set i (.v (.ref a))) → tz D σ' H') : tSeq (tAsg (tLst tr) (gName i)) tz D σ H :=
  h σ H s p _ fun vs H1 x1 p1 r => ⟨sz_of (hz vs r), fun a ha => kk _ _ a vs (x1.trans (Xp.of (Ex.new ha))) (p1.ex' (Ex.new ha)) upd_same r (((s.tx ok (x1.tx p)).ex (Ex.new ha)).setV)⟩
theorem e_inI {i : Int} {ns : List Int} (ha : Eh K H0 Γ ta (.int i)) (hb : Eh K H0 Γ tb (.tuple (ns.map .int))) : Eh K H0 Γ (tOp (rIn K false) ta tb) (.bool (inV (.int i) (ns.map V.int))) := fun σ H e0 s Q q =>
  bin2 ha hb e0 s fun v w H2 e2 d1 d2 => by
    obtain ⟨p, xs, rfl, h3, h4⟩ := dp_tup d2
    cases dp_int d1
    rw [dps_ints h4] at h3
    exact ⟨p, _, rfl, .inr (SqT.of h3), rfl, by simp [flatV], q _ H2 e2 (.bl _)⟩
theorem bls_dps (H : Hp) : ∀ bs : List Bool, DqAll K H (bs.map V.bl) (bs.map .bool)
  | [] => .nil
  | b :: bs => .cons (.bl b) (bls_dps H bs)
def spLHidden (K : PySem.W.Frag) : Sp := fun vs H Q _ => ∃ (pp : Addr) (k : Nat) (C : Tab) (c : V), vs = [.ref pp, c] ∧ PotAt H pp k ∧ k ≤ 100000 ∧ Dq K H c (dTab C) ∧ VC C ∧ ∀ v hs H', Xp pp H H' → PotAt H' pp (k + 1000) → Dq K H' v (dHid hs) → VH C hs → Q v H'
theorem ok_law_hidden (F : Fn K mg "_law_hidden" s_law_hidden p_law_hidden) (T : Tx0 K mg) (c_law_take : Ca P w K mg base "_law_take" 1 p_law_take (spTake K)) : Ca P w K mg base "_law_hidden" 2 p_law_hidden (spLHidden K) := by
  refine F.ca sc_law_hidden (fun vs H Q E h => by obtain ⟨pp, k, C, c, rfl, _⟩ := h; rfl) (fun f cdv A outer s H vs Q E hr h => ?_)
  obtain ⟨pp, k, C, c, rfl, pot, hk, hc, hC, kk⟩ := h
  have nd := sc_law_hidden.nd
  have l6 := hC.l6
  have w6 := hC.w6
  refine ⟨_, (pss_cons (ps_par (i := 5) (j := 6) rfl nd rfl rfl (by decide) rfl rfl (pa_cons (pe_callB (ck_lenK K rfl) (by rfl) T.len_ PySem.boot_len (pa_cons (pv 1) pa_nil)) (pa_cons (pe_callB (ck_lenK K rfl) (by rfl) T.len_ PySem.boot_len (pa_cons (pe_ix (ix_tupK K rfl) (pv 1) pe_int (fun _ _ => rfl)) pa_nil)) pa_nil)) rfl)
    (pss_cons (ps_set (i := 2) nd rfl (Or.inl rfl) (pe_ca c_law_take hr (by decide) (by rfl) (pa_cons (pv 0) (pa_cons pe_int pa_nil))))
    (pss_cons (ps_set (i := 3) nd rfl (Or.inl rfl) (pe_lst pa_nil))
    (pss_cons (ps_for PassesOwn.never rfl (pi_range1 (by rfl) T.range_ (pa_cons (pv 5) pa_nil)) (pg_name (i := 4) nd rfl (Or.inl rfl)) (pss_one (ps_for PassesOwn.never rfl (pi_range1 (by rfl) T.range_ (pa_cons (pv 6) pa_nil)) (pg_name (i := 7) nd rfl (Or.inl rfl)) (pss_cons (ps_set (i := 8) nd rfl (Or.inl rfl) (pe_lst (pa_cons pe_bl (pa_cons (pe_cmpR op_eq (pe_ca c_law_take hr (by decide) (by rfl) (pa_cons (pv 0) (pa_cons pe_int pa_nil))) pe_int (nomark _)) (pa_cons (pe_cmpR op_eq (pe_ca c_law_take hr (by decide) (by rfl) (pa_cons (pv 0) (pa_cons pe_int pa_nil))) pe_int (nomark _)) (pa_cons (pe_and (pe_cmpR op_lt (pv 4) pe_int (nomark _)) (pe_one (pe_cmpR op_lt (pv 7) pe_int (nomark _)))) pa_nil))))))
    (pss_one (ps_if (pt_val (pe_ix (ix_listK K rfl) (pe_op op_cat (pv 8) (pe_lst (pa_cons (pe_cmpR (op_in_seqK K rfl) (pe_op op_sub (pv 4) (pv 7)) (pe_tup (pa_cons pe_int (pa_cons pe_int pa_nil))) rfl) pa_nil))) (pv 2) (fun _ _ => rfl))) (pss_one (ps_expr (pe_bmK K rfl PySem.F.plainAttrs_list PySem.F.slot_list_append PySem.F.type_list_append mt_append (pv 3) (pa_cons (pe_tup (pa_cons (pv 4) (pa_cons (pv 7) pa_nil))) pa_nil)))) pss_nil))))))
    (pss_one (ps_ret (pe_callTy (ck_tupK K rfl) (by rfl) T.tuple_ (by decide +kernel) (pa_cons (pv 3) pa_nil)))))))), ?_⟩
  have S : Sl K H _ [.v (.ref pp), .d (dTab C), .no, .no, .no, .no, .no, .no, .no] := sl_mix (.v (.d hc .nil)) n_law_hidden
  have okC : tuO (dTab C) = true := tuO_tab C
  refine s_parM (p1 := fun i => i = (C.length : Int)) (p2 := fun i => i = (wd C : Int)) (mv_int (row1 (e_var rfl))) (mv_int (row0 hC (e_var rfl))) (by simp [En.ok, okC]) S pot fun σ1 H1 x y x1 pot1 hx hy S1 => ?_
  subst hx hy
  refine s_asgMi (mv_take (n := 0) rfl e_int (by decide) (by decide) (by omega)) (by simp [En.ok, okC, tuO]) S1 pot1 fun σ2 H2 way x2 pot2 hway S2 => ?_
  refine s_asgL (H0 := fun _ => none) (ds := []) (l_lst a_nil (by simp)) exN S2 fun σ3 H3 fq fqs hfq e3 hfq3 hfqs S3 => ?_
  have xp2 : Xp pp H H2 := x1.trans x2
  have xp3 : Xp pp H H3 := xp2.trans (Xp.of e3)
  have pot3 := pot2.ex' e3
  have hfqp : fq ≠ pp := pot2.ne hfq
  have hfqH : H fq = none := xp2.back hfq hfqp
  refine s_for (H0 := fun _ => none) (j_range (n := C.length) (e_var rfl) (by omega)) exN S3 fun H4 e4 S4 => ?_
  refine ⟨fun i σ' H' => Xp pp H H' ∧ Tx K H4 H' ∧ PotAt H' pp (k + 1 + 12 * i) ∧ ∃ xs ps, H' fq = some (.lst xs) ∧ DqAll K H' xs (ps.map dPl) ∧ ps.length ≤ 6 * i ∧ ps.Pairwise plLt ∧ (∀ p ∈ ps, p.1 < i ∧ p.2 < wd C) ∧
    Sl K H' σ' [.v (.ref pp), .d (dTab C), .d (.int way), .v (.ref fq), .no, .d (.int C.length), .d (.int (wd C)), .no, .no], ⟨xp3.trans (Xp.of e4), Tx.refl _, (pot3.ex' e4).mono (by omega), fqs, [], e4 _ _ hfq3, dps_ex e4 _ _ hfqs, by simp, by simp, (fun r h => absurd h (by simp)), S4⟩, fun i σ' H' h => h.2.1, ?_, ?_⟩
  · rintro i d v σ' H5 H6 hd ⟨xp, tx, pot5, xs, ps, hl, hps, hplen, hpw, hpin, S'⟩ e6 hv6
    obtain ⟨hi, rfl⟩ := dNs_at hd
    refine tg_name v σ' H6 _ hv6 (S'.ex e6) fun σ7 S7 _ => ?_
    refine s_forE (H0 := fun _ => none) (j_range (n := wd C) (e_var rfl) (by omega)) exN S7 fun H9 e9 S9 => ?_
    have e69 := e6.trans e9
    refine ⟨fun j σ' H' => Xp pp H H' ∧ Tx K H9 H' ∧ PotAt H' pp (k + 1 + 12 * i + 2 * j) ∧ ∃ xs ps, H' fq = some (.lst xs) ∧ DqAll K H' xs (ps.map dPl) ∧ ps.length ≤ 6 * i + j ∧ ps.Pairwise plLt ∧ (∀ p ∈ ps, (p.1 < i ∨ (p.1 = i ∧ p.2 < j)) ∧ p.2 < wd C) ∧
      Sl K H' σ' [.v (.ref pp), .d (dTab C), .d (.int way), .v (.ref fq), .d (.int (i : Nat)), .d (.int C.length), .d (.int (wd C)), .no, .no], ⟨xp.trans (Xp.of e69), Tx.refl _, (pot5.ex' e69).mono (by omega), xs, ps, e69 _ _ hl, dps_ex e69 _ _ hps, by omega, hpw, fun p hp => ⟨.inl (hpin p hp).1, (hpin p hp).2⟩, S9⟩, fun i σ' H' h => h.2.1, ?_, ?_⟩
    · rintro j d v σa Ha Hb hd ⟨xpa, txa, pota, xsa, psa, hla, hpsa, hplena, hpwa, hpina, Sa⟩ eb hvb
      obtain ⟨hj, rfl⟩ := dNs_at hd
      refine tg_name v σa Hb _ hvb (Sa.ex eb) fun σc Sc _ => ?_
      have potb := pota.ex' eb
      have okΓ : ([.v (.ref pp), .d (dTab C), .d (.int way), .v (.ref fq), .d (.int (i : Nat)), .d (.int C.length), .d (.int (wd C)), .d (.int (j : Nat)), .no] : Env1).all En.ok = true := by simp [En.ok, okC, tuO]
      refine s_asgML (Rr := fun vs => ∃ a b c d : Bool, vs = [V.bl a, .bl b, .bl c, .bl d]) (fun σ H s p Q q => (ma_cons okΓ (mv_bl e_bl) (ma_cons okΓ (mv_eq okΓ (mv_take (n := 0) rfl e_int (by decide) (by decide) (by omega)) (mv_int e_int)) (ma_cons okΓ (mv_eq okΓ (mv_take (n := 0) rfl e_int (by decide) (by decide) (by omega)) (mv_int e_int)) (ma_cons okΓ (mv_bl (e_and (e_lt (e_var rfl) e_int) fun _ => e_lt (e_var rfl) e_int)) ma_nil)))) σ H s p Q fun vs H' x p r => q vs H' x p (by
        obtain ⟨_, _, rfl, ⟨a, rfl⟩, _, _, rfl, ⟨b, rfl⟩, _, _, rfl, ⟨c, rfl⟩, _, _, rfl, ⟨d, rfl⟩, rfl⟩ := r
        exact ⟨a, b, c, d, rfl⟩)) okΓ (by rintro vs ⟨a, b, c, d, rfl⟩; simp) Sc potb fun σd Hd sq sqs xd potd hsq hR Sd => ?_
      obtain ⟨b1, b2, b3, b4, rfl⟩ := hR
      have hfd : Hd fq = some (.lst xsa) := xd _ _ hfqp (eb _ _ hla)
      have txd : Tx K Ha Hd := (Tx.of eb).trans (xd.tx potb)
      have dsq : Dq K Hd (.ref sq) (.list ([b1, b2, b3, b4].map .bool)) := .lst hsq (bls_dps Hd [b1, b2, b3, b4])
      obtain ⟨b5, hb5⟩ : ∃ b5, atI ([b1, b2, b3, b4].map PyData.bool ++ [.bool (inV (.int ((i : Int) - (j : Int))) ([0, 1].map V.int))]) way = some (.bool b5) := by
        obtain ⟨wn, rfl⟩ : ∃ wn : Nat, way = (wn : Int) := ⟨way.toNat, by omega⟩
        match wn, hway with
        | 0, _ => exact ⟨_, atI_nat rfl⟩
        | 1, _ => exact ⟨_, atI_nat rfl⟩
        | 2, _ => exact ⟨_, atI_nat rfl⟩
        | 3, _ => exact ⟨_, atI_nat rfl⟩
        | 4, _ => exact ⟨_, atI_nat rfl⟩
        | n + 5, h => exact absurd h.2 (by omega)
      refine s_ifL (H0 := Hd) (b_B (e_ixL (l_catE (e_varB rfl dsq) (l_lst (a_cons (e_inI (ns := [0, 1]) (e_sub (e_var rfl) (e_var rfl)) (e_tup (a_cons e_int (a_cons e_int a_nil)) (by simp))) a_nil) (by simp)).eh (by simp)).eh (e_var rfl) hb5)) (Ex.refl _) Sd (fun b He ee Se => ?_) (fun b He ee Se => ?_)
      · refine s_appL (H0 := fun _ => none) (d := dPl (i, j)) (e_tup (a_cons (e_var rfl) (a_cons (e_var rfl) a_nil)) (by simp)) exN Se rfl (ee _ _ hfd) (by
          have := dps_len hpsa
          rw [List.length_map] at this
          omega) fun Hf y ef hy Sf => ?_
        have hff := (ee.trans ef) _ _ hfd
        have tx2 : Tx K Hf (upd Hf fq (.lst (xsa ++ [y]))) := Tx.upd (noT_lst hff)
        have txx := txd.trans (Tx.of (ee.trans ef))
        refine ⟨((xpa.trans (Xp.of eb)).trans (xd.trans (Xp.of (ee.trans ef)))).mut hfqH, txa.trans (txx.trans tx2), ((potd.ex' (ee.trans ef)).upd hfqp).mono (by omega), _, psa ++ [(i, j)], upd_same, ?_, ?_, ?_, ?_, ((Sf.clr 7).clr 8).tx (by simp [En.ok, okC, tuO]) tx2⟩
        · rw [List.map_append]
          exact dps_app (dps_tx (txx.trans tx2) _ _ (tuOs_map _ tuO_pl _) hpsa) (.cons (dp_tx tx2 _ _ (tuO_pl _) hy) .nil)
        · rw [List.length_append]
          simp
          omega
        · rw [List.pairwise_append]
          refine ⟨hpwa, by simp, fun a ha b hb => ?_⟩
          rw [List.mem_singleton.mp hb]
          exact (hpina a ha).1
        · intro p hp
          rcases List.mem_append.mp hp with h | h
          · have := hpina p h
            exact ⟨by omega, this.2⟩
          · rw [List.mem_singleton.mp h]
            exact ⟨.inr ⟨rfl, Nat.lt_succ_self _⟩, hj⟩
      · refine ⟨(xpa.trans (Xp.of eb)).trans (xd.trans (Xp.of ee)), txa.trans (txd.trans (Tx.of ee)), (potd.ex' ee).mono (by omega), xsa, psa, ee _ _ hfd, dps_tx (txd.trans (Tx.of ee)) _ _ (tuOs_map _ tuO_pl _) hpsa, by omega, hpwa, fun p hp => ?_, (Se.clr 7).clr 8⟩
        have := hpina p hp
        exact ⟨by omega, this.2⟩
    · rintro σa Ha ⟨xpa, txa, pota, xsa, psa, hla, hpsa, hplena, hpwa, hpina, Sa⟩
      rw [dNs_len] at pota hplena hpina
      exact ⟨xpa, tx.trans ((Tx.of e69).trans txa), pota.mono (by omega), xsa, psa, hla, hpsa, by omega, hpwa, fun p hp => by
        have := hpina p hp
        exact ⟨by omega, this.2⟩, Sa.clr 4⟩
  · rintro σ' H5 ⟨xp, tx, pot5, xs, ps, hl, hps, hplen, hpw, hpin, S'⟩
    rw [dNs_len] at hpin pot5
    refine s_ret (H0 := H5) (e_tupOf (e_varB (v := .ref fq) rfl (Dq.lst hl hps))) (Ex.refl _) S' fun v H6 e6 d6 => ?_
    exact kk v ps H6 (xp.trans (Xp.of e6)) ((pot5.ex' e6).mono (by omega)) d6 ⟨hpin, hpw⟩
/-! ends -/
def dEnds (n m : Int) : PyData := .tuple [.int n, .int m]
theorem shaped_ends (n m : Int) : SeqAt.shaped (dEnds n m) = true := shaped_of (by simp [dEnds, PyData.canLay0, PyData.canLayAll0]) (by simp [dEnds, PyData.depth, PyData.depthAll])
def spEnds : PySem.W.Frag → Sp := spF (fun a : Tab × List Pl × Pl => [dTab a.1, dHid a.2.1, dPl a.2.2]) (fun a => VC a.1 ∧ VH a.1 a.2.1 ∧ a.2.2 ∈ a.2.1)
  (fun a d => ∃ n m, d = dEnds n m ∧ Cert true (tat a.1) a.2.1 a.2.2 n ∧ Cert false (tat a.1) a.2.1 a.2.2 m)
theorem ok_law_ends (F : Fn K mg "_law_ends" s_law_ends p_law_ends) (T : Tx0 K mg) (c_bounds_at : Ca P w K mg base "bounds_at" 7 p_bounds_at (spBounds K)) : Ca P w K mg base "_law_ends" 8 p_law_ends (spEnds K) := by
  refine F.ca sc_law_ends (spF_len (n := 3) fun _ => rfl) (fun f cdv A outer s H vs Q E hr h => ?_)
  obtain ⟨⟨C, hs, p⟩, hv, ⟨hC, hH, hp⟩, k⟩ := h
  have nd := sc_law_ends.nd
  refine ⟨_, (pss_cons (ps_set (i := 3) nd rfl (Or.inl rfl) (pe_ca c_bounds_at hr (by decide) (by rfl) (pa_cons (pv 0) (pa_cons (pv 1) (pa_cons (pv 2) pa_nil)))))
    (pss_one (ps_ret (pe_tup (pa_cons (pe_ix (ix_tupK K rfl) (pv 3) pe_int (fun _ _ => rfl)) (pa_cons (pe_ix (ix_tupK K rfl) (pv 3) pe_int (fun _ _ => rfl)) pa_nil)))))), ?_⟩
  have S : Sl K H _ [.d (dTab C), .d (dHid hs), .d (dPl p), .no] := sl_begin hv n_law_ends
  refine s_asgP (H0 := fun _ => none) (p_call (C, hs, p) (a_cons (e_var rfl) (a_cons (e_var rfl) (a_cons (e_var rfl) a_nil))) ⟨hC, hH, hp⟩) exN S fun σ1 H1 dt e1 pt S1 => ?_
  obtain ⟨n, T1, a1, b1, m, T2, a2, b2, rfl, G1, G2⟩ := pt
  exact s_ret (H0 := fun _ => none) (d := dEnds n m) (e_tup (a_cons (e_ixT (e_var rfl) e_int at0) (a_cons (e_ixT (e_var rfl) e_int (atI_nat (j := 3) rfl)) a_nil)) (by simp)) exN S1 fun v H2 e2 d2 => k v _ H2 (e1.trans e2) d2 ⟨n, m, rfl, G1.cert, G2.cert⟩
theorem ends_uniq {C : Tab} {hs : List Pl} {p : Pl} {n m : Int} {x : PyData} (nd : hs.Nodup) (hp : p ∈ hs) (a : Cert true (tat C) hs p n) (b : Cert false (tat C) hs p m) (h : ∃ n m, x = dEnds n m ∧ Cert true (tat C) hs p n ∧ Cert false (tat C) hs p m) : x = dEnds n m := by
  obtain ⟨n', m', rfl, h1, h2⟩ := h
  rw [h1.uniq nd hp a, h2.uniq nd hp b]
/-- .. told by what they are -/
theorem e_ends {C : Tab} {hs : List Pl} {p : Pl} {n m : Int} {E : XK} {tr : TA} (h : Ah K H0 Γ tr [dTab C, dHid hs, dPl p]) (hC : VC C) (hH : VH C hs) (hp : p ∈ hs) (a : Cert true (tat C) hs p n) (b : Cert false (tat C) hs p m) : Eh K H0 Γ (tCall (spEnds K) [] E tr) (dEnds n m) :=
  e_call (C, hs, p) h ⟨hC, hH, hp⟩ fun x hx => ends_uniq hH.nd hp a b hx
end
end Ak
set_option Elab.async false
set_option linter.all false
set_option maxRecDepth 100000
set_option maxHeartbeats 4000000
/-! AkG3: shown counts otherwise. -/
namespace Ak
open PySem PySem.Spec PyProof.Rows L2 Evl
section
variable {P : Program} {w : World} {K : PySem.W.Frag} {mg : Str → Option Value} {base : Heap} {H0 H H' H1 : Hp} {Γ : Env1} {ta tb te : TE} {d : PyData} {pp q : Addr} {k k1 k2 : Nat} {σ : Sg}
theorem dEnum_tu {ds : List PyData} (h : tuOs ds = true) : ∀ d ∈ dEnum ds, tuO d = true := by
  intro d hd
  obtain ⟨i, hi, e⟩ := List.mem_iff_getElem.mp hd
  obtain ⟨x, hx, rfl⟩ := dEnum_get (i := i) (d := d) (by rw [List.getElem?_eq_getElem hi, e])
  have : ∀ (ds : List PyData) (i : Nat) (x : PyData), tuOs ds = true → ds[i]? = some x → tuO x = true := by
    intro ds
    induction ds with
    | nil => intro i x _ h; simp at h
    | cons a ds ih =>
      intro i x t h
      simp only [tuOs, Bool.and_eq_true] at t
      cases i with
      | zero => simp at h; rw [← h]; exact t.1
      | succ i => exact ih i x t.2 (by simpa using h)
  simp [tuO, tuOs, this ds i x h hx]
theorem dEnum_len (ds : List PyData) : (dEnum ds).length = ds.length := by simp [dEnum]
def spOthers (K : PySem.W.Frag) : Sp := fun vs H Q _ => ∃ (pp : Addr) (k : Nat) (C : Tab) (hs : List Pl) (c h : V), vs = [.ref pp, c, h] ∧ PotAt H pp k ∧ k ≤ 100000 ∧ Dq K H c (dTab C) ∧ Dq K H h (dHid hs) ∧ VC C ∧ VH C hs ∧
  ∀ v C' H', Xp pp H H' → PotAt H' pp (k + 100) → Dq K H' v (dTab C') → VC C' → C'.length = C.length → wd C' = wd C → (∀ q ∈ hs, tat C' q = tat C q) → Q v H'
theorem ok_law_others (F : Fn K mg "_law_others" s_law_others p_law_others) (T : Tx0 K mg) (c_law_take : Ca P w K mg base "_law_take" 1 p_law_take (spTake K)) : Ca P w K mg base "_law_others" 2 p_law_others (spOthers K) := by
  refine F.ca sc_law_others (fun vs H Q E h => by obtain ⟨pp, k, C, hs, c, h, rfl, _⟩ := h; rfl) (fun f cdv A outer s H vs Q E hr h => ?_)
  obtain ⟨pp, k, C, hs, c, hv, rfl, pot, hk, hc, hh, hC, hH, kk⟩ := h
  have nd := sc_law_others.nd
  have l6 := hC.l6
  have w6 := hC.w6
  have l1 := hC.l1
  refine ⟨_, (pss_cons (ps_set (i := 3) nd rfl (Or.inl rfl) (pe_lst pa_nil))
    (pss_cons (ps_for PassesOwn.never rfl (pi_enumT (by rfl) T.enumerate (pa_cons (pv 1) pa_nil)) (pg_tupK K rfl (n := 2) rfl (pgs_cons (pg_name (i := 4) nd rfl (Or.inl rfl)) (pgs_cons (pg_name (i := 5) nd rfl (Or.inl rfl)) pgs_nil))) (pss_cons (ps_set (i := 6) nd rfl (Or.inl rfl) (pe_lst pa_nil))
    (pss_cons (ps_for PassesOwn.never rfl (pi_enumT (by rfl) T.enumerate (pa_cons (pv 5) pa_nil)) (pg_tupK K rfl (n := 2) rfl (pgs_cons (pg_name (i := 7) nd rfl (Or.inl rfl)) (pgs_cons (pg_name (i := 8) nd rfl (Or.inl rfl)) pgs_nil))) (pss_cons (ps_set (i := 9) nd rfl (Or.inl rfl) (pe_ca c_law_take hr (by decide) (by rfl) (pa_cons (pv 0) (pa_cons pe_int pa_nil))))
    (pss_one (ps_expr (pe_bmK K rfl PySem.F.plainAttrs_list PySem.F.slot_list_append PySem.F.type_list_append mt_append (pv 6) (pa_cons (pe_ifExp (pt_cmpR (op_inTDK K rfl hr.units) (pe_tup (pa_cons (pv 4) (pa_cons (pv 7) pa_nil))) (pv 2) rfl) (pv 8) (pv 9)) pa_nil))))))
    (pss_one (ps_expr (pe_bmK K rfl PySem.F.plainAttrs_list PySem.F.slot_list_append PySem.F.type_list_append mt_append (pv 3) (pa_cons (pe_callTy (ck_tupK K rfl) (by rfl) T.tuple_ (by decide +kernel) (pa_cons (pv 6) pa_nil)) pa_nil)))))))
    (pss_one (ps_ret (pe_callTy (ck_tupK K rfl) (by rfl) T.tuple_ (by decide +kernel) (pa_cons (pv 3) pa_nil)))))), ?_⟩
  have S : Sl K H _ [.v (.ref pp), .d (dTab C), .d (dHid hs), .no, .no, .no, .no, .no, .no, .no] := sl_mix (.v (.d hc (.d hh .nil))) n_law_others
  have okC : tuO (dTab C) = true := tuO_tab C
  have okH : tuO (dHid hs) = true := tuO_hid hs
  refine s_asgL (H0 := fun _ => none) (ds := []) (l_lst a_nil (by simp)) exN S fun σ3 H3 fq fqs hfq e3 hfq3 hfqs S3 => ?_
  have pot3 := pot.ex' e3
  have hfqp : fq ≠ pp := pot.ne hfq
  refine s_for (H0 := fun _ => none) (j_enumT (e_var rfl) (tuOs_map _ tuO_row C)) exN S3 fun H4 e4 S4 => ?_
  refine ⟨fun i σ' H' => Xp pp H H' ∧ Tx K H4 H' ∧ PotAt H' pp (k + 6 * i) ∧ ∃ xs rows, H' fq = some (.lst xs) ∧ DqAll K H' xs (rows.map dRow) ∧ rows.length = i ∧ (∀ r ∈ rows, r.length = wd C ∧ ∀ x ∈ r, 0 ≤ x ∧ x ≤ 1000000000) ∧ (∀ q ∈ hs, q.1 < i → tat rows q = tat C q) ∧
    Sl K H' σ' [.v (.ref pp), .d (dTab C), .d (dHid hs), .v (.ref fq), .no, .no, .no, .no, .no, .no], ⟨Xp.of (e3.trans e4), Tx.refl _, (pot3.ex' e4).mono (by omega), fqs, [], e4 _ _ hfq3, dps_ex e4 _ _ hfqs, rfl, (fun r h => absurd h (by simp)), (fun q _ h => absurd h (Nat.not_lt_zero _)), S4⟩, fun i σ' H' h => h.2.1, ?_, ?_⟩
  · rintro i d v σ' H5 H6 hd ⟨xp, tx, pot5, xs, rows, hl, hrows, hlen, hgood, hsame, S'⟩ e6 hv6
    obtain ⟨dr, hdr, rfl⟩ := dEnum_get hd
    obtain ⟨r, hrr, rfl⟩ : ∃ r, C[i]? = some r ∧ dr = dRow r := by
      rw [List.getElem?_map] at hdr
      cases hz : C[i]? with
      | none => rw [hz] at hdr; cases hdr
      | some r => rw [hz] at hdr; exact ⟨r, rfl, (Option.some.inj hdr).symm⟩
    have hi : i < C.length := (List.getElem?_eq_some_iff.mp hrr).1
    have hrC : r ∈ C := List.mem_of_getElem? hrr
    have hrl := hC.rect r hrC
    have hgetr : C.getD i [] = r := by rw [List.getD_eq_getElem?_getD, hrr]; rfl
    refine tg_2 v σ' H6 _ hv6 (S'.ex e6) fun σ7 S7 _ => ?_
    refine s_asgL (H0 := fun _ => none) (ds := []) (l_lst a_nil (by simp)) exN S7 fun σ8 H8 lq lqs hlq e8 hlq8 hlqs S8 => ?_
    have pot8 := (pot5.ex' e6).ex' e8
    have hlqp : lq ≠ pp := (pot5.ex' e6).ne hlq
    have hlf : lq ≠ fq := by
      rintro rfl
      rw [e6 _ _ hl] at hlq
      cases hlq
    have hlqH : H lq = none := (xp.trans (Xp.of e6)).back hlq hlqp
    have hfq8 : H8 fq = some (.lst xs) := (e6.trans e8) _ _ hl
    refine s_for (H0 := fun _ => none) (j_enumT (e_var rfl) (tuOs_map _ (fun _ => rfl) r)) exN S8 fun H9 e9 S9 => ?_
    refine ⟨fun j σ' H' => Xp pp H H' ∧ Tx K H9 H' ∧ PotAt H' pp (k + 6 * i + j) ∧ H' fq = some (.lst xs) ∧ ∃ ns : List Int, H' lq = some (.lst (ns.map V.int)) ∧ ns.length = j ∧ (∀ x ∈ ns, 0 ≤ x ∧ x ≤ 1000000000) ∧ (∀ j', j' < j → (i, j') ∈ hs → ns.getD j' 0 = tat C (i, j')) ∧
      Sl K H' σ' [.v (.ref pp), .d (dTab C), .d (dHid hs), .v (.ref fq), .d (.int (i : Nat)), .d (dRow r), .v (.ref lq), .no, .no, .no], ⟨xp.trans (Xp.of (e6.trans (e8.trans e9))), Tx.refl _, (pot8.ex' e9).mono (by omega), e9 _ _ hfq8, [], by
        cases hlqs
        exact e9 _ _ hlq8, rfl, (fun x h => absurd h (by simp)), (fun j' h => absurd h (Nat.not_lt_zero _)), S9⟩, fun i σ' H' h => h.2.1, ?_, ?_⟩
    · rintro j d v σa Ha Hb hd ⟨xpa, txa, pota, hfa, ns, hla, hns, hnsg, hnse, Sa⟩ eb hvb
      obtain ⟨dx, hdx, rfl⟩ := dEnum_get hd
      obtain ⟨x, hxr, rfl⟩ : ∃ x, r[j]? = some x ∧ dx = .int x := by
        rw [List.getElem?_map] at hdx
        cases hz : r[j]? with
        | none => rw [hz] at hdx; cases hdx
        | some x => rw [hz] at hdx; exact ⟨x, rfl, (Option.some.inj hdx).symm⟩
      have hj : j < r.length := (List.getElem?_eq_some_iff.mp hxr).1
      have hxm : x ∈ r := List.mem_of_getElem? hxr
      have hxt : tat C (i, j) = x := by
        show (C.getD i []).getD j 0 = x
        rw [hgetr, List.getD_eq_getElem?_getD, hxr]
        rfl
      refine tg_2 v σa Hb _ hvb (Sa.ex eb) fun σc Sc _ => ?_
      have potb := pota.ex' eb
      refine s_asgMi (mv_take (n := 0) rfl e_int (by decide) (by decide) (by omega)) (by simp [En.ok, okC, okH, tuO_row, tuO]) Sc potb fun σd Hd o xd potd ho Sd => ?_
      have hlb : Hb lq = some (.lst (ns.map V.int)) := eb _ _ hla
      have hld : Hd lq = some (.lst (ns.map V.int)) := xd _ _ hlqp hlb
      refine s_appL (H0 := fun _ => none) (d := .int (if (i, j) ∈ hs then x else o)) (e_if (b_test ((e_inTD (neg := false) (ds := hs.map dPl) (d := dPl (i, j)) (e_tup (a_cons (e_var rfl) (a_cons (e_var rfl) a_nil)) (by simp)) (e_var rfl) (shaped_pl _) (shaped_hid hs)).to (e := .bool (decide ((i, j) ∈ hs))) (by rw [any_pl]; rfl))) (fun e => (e_var rfl).to (by rw [if_pos (of_decide_eq_true e)])) (fun e => (e_var rfl).to (by rw [if_neg (of_decide_eq_false e)]))) exN Sd rfl hld (by rw [List.length_map]; omega) fun He y ee hy Se => ?_
      cases dp_int hy
      have hle := ee _ _ hld
      have tx2 : Tx K He (upd He lq (.lst (ns.map V.int ++ [V.int (if (i, j) ∈ hs then x else o)]))) := Tx.upd (noT_lst hle)
      have xpe : Xp pp H He := (xpa.trans (Xp.of eb)).trans (xd.trans (Xp.of ee))
      have hnx := hC.nn r hrC x hxm
      have htx := hC.top r hrC x hxm
      refine ⟨xpe.mut hlqH, txa.trans (((Tx.of eb).trans (xd.tx potb)).trans ((Tx.of ee).trans tx2)), ((potd.ex' ee).upd hlqp).mono (by omega), ?_, ns ++ [if (i, j) ∈ hs then x else o], by rw [List.map_append]; exact upd_same, by rw [List.length_append, hns]; rfl, fun y hy => ?_, fun j' hj' hm => ?_, (((Se.clr 7).clr 8).clr 9).tx (by simp [En.ok, okC, okH, tuO_row, tuO]) tx2⟩
      · rw [upd_ne hlf.symm]
        exact ee _ _ (xd _ _ hfqp (eb _ _ hfa))
      · rcases List.mem_append.mp hy with h | h
        · exact hnsg y h
        · rw [List.mem_singleton.mp h]
          split
          · exact ⟨hnx, htx⟩
          · omega
      · by_cases e : j' = j
        · subst e
          rw [if_pos hm, hxt, ← hns, getD_app_eq]
        · rw [getD_app_lt (by omega)]
          exact hnse j' (by omega) hm
    · rintro σa Ha ⟨xpa, txa, pota, hfa, ns, hla, hns, hnsg, hnse, Sa⟩
      rw [dEnum_len, List.length_map] at pota hns hnse
      have hxl := dps_len hrows
      rw [List.length_map] at hxl
      refine s_appL (H0 := Ha) (e_tupOf (ds := ns.map .int) (e_varB (v := .ref lq) rfl (Dq.lst hla (ints_dps ns)))) (Ex.refl _) Sa rfl hfa (by omega) fun Hb y eb hy Sb => ?_
      have hfb := eb _ _ hfa
      have tx2 : Tx K Hb (upd Hb fq (.lst (xs ++ [y]))) := Tx.upd (noT_lst hfb)
      have txx : Tx K H5 Hb := (((Tx.of e6).trans (Tx.of e8)).trans (Tx.of e9)).trans (txa.trans (Tx.of eb))
      refine ⟨(xpa.trans (Xp.of eb)).mut hfq, tx.trans (txx.trans tx2), ((pota.ex' eb).upd hfqp).mono (by omega), xs ++ [y], rows ++ [ns], upd_same, ?_, by rw [List.length_append, hlen]; rfl, fun r' hr' => ?_, fun q hq hlt => ?_, (((Sb.clr 4).clr 5).clr 6).tx (by simp [En.ok, okC, okH, tuO_row, tuO]) tx2⟩
      · rw [List.map_append]
        exact dps_app (dps_tx (txx.trans tx2) _ _ (tuOs_map _ tuO_row _) hrows) (.cons (dp_tx tx2 _ _ (tuO_row ns) hy) .nil)
      · rcases List.mem_append.mp hr' with h | h
        · exact hgood r' h
        · rw [List.mem_singleton.mp h]
          exact ⟨by omega, hnsg⟩
      · by_cases e : q.1 = i
        · have hq2 := (hH.inr q hq).2
          have e1 : (rows ++ [ns]).getD q.1 [] = ns := by rw [e, ← hlen, getD_app_eq]
          unfold tat
          rw [e1]
          have e2 : (i, q.2) = q := by rw [← e]
          have := hnse q.2 (by omega) (by rw [e2]; exact hq)
          rw [this, e2]
          rfl
        · have e1 : (rows ++ [ns]).getD q.1 [] = rows.getD q.1 [] := getD_app_lt (by omega)
          unfold tat
          rw [e1]
          exact hsame q hq (by omega)
  · rintro σ' H5 ⟨xp, tx, pot5, xs, rows, hl, hrows, hlen, hgood, hsame, S'⟩
    rw [dEnum_len, List.length_map] at hlen pot5 hsame
    refine s_ret (H0 := H5) (e_tupOf (e_varB (v := .ref fq) rfl (Dq.lst hl hrows))) (Ex.refl _) S' fun v H6 e6 d6 => ?_
    have hw : wd rows = wd C := (hgood _ (getD_mem (show 0 < rows.length by omega) _)).1
    exact kk v rows H6 (xp.trans (Xp.of e6)) ((pot5.ex' e6).mono (by omega)) d6 ⟨by omega, by omega, by rw [hw]; exact hC.w1, by rw [hw]; omega, fun r hr => by rw [hw]; exact (hgood r hr).1, fun r hr x hx => ((hgood r hr).2 x hx).1, fun r hr x hx => ((hgood r hr).2 x hx).2⟩ hlen hw (fun q hq => hsame q hq (hH.inr q hq).1)
end
end Ak
set_option Elab.async false
set_option linter.all false
set_option maxRecDepth 100000
set_option maxHeartbeats 4000000
/-! AkG4: sorted places; tables turned and moved. -/
namespace Ak
open PySem PySem.Spec PyProof.Rows L2 Evl
/-! rising lists of places -/
theorem plLt_asym {a b : Pl} (h : plLt a b) (g : plLt b a) : False := by
  unfold plLt at h g
  omega
theorem rise_uniq : ∀ {xs ys : List Pl}, xs.Pairwise plLt → ys.Pairwise plLt → xs.Perm ys → xs = ys
  | [], ys, _, _, p => (List.nil_perm.mp p).symm
  | a :: xs, [], _, _, p => absurd p.length_eq (by simp)
  | a :: xs, b :: ys, h, g, p => by
    rw [List.pairwise_cons] at h g
    have e : a = b := by
      have ha : a ∈ b :: ys := p.mem_iff.mp (by simp)
      have hb : b ∈ a :: xs := p.mem_iff.mpr (by simp)
      rcases List.mem_cons.mp ha with e | ha
      · exact e
      · rcases List.mem_cons.mp hb with e | hb
        · exact e.symm
        · exact (plLt_asym (h.1 b hb) (g.1 a ha)).elim
    subst e
    rw [rise_uniq h.2 g.2 (List.Perm.cons_inv p)]
section
variable {P : Program} {w : World} {K : PySem.W.Frag} {mg : Str → Option Value} {base : Heap} {H0 H H' H1 : Hp} {Γ : Env1} {ta tb te : TE} {d : PyData} {pp q : Addr} {k k1 k2 : Nat} {σ : Sg}
theorem dps_perm {xs ys : List V} (p : ys.Perm xs) : ∀ {ps : List Pl}, DqAll K H xs (ps.map dPl) → ∃ qs : List Pl, qs.Perm ps ∧ DqAll K H ys (qs.map dPl) := by
  induction p with
  | nil =>
    intro ps h
    exact ⟨ps, List.Perm.refl _, h⟩
  | @cons x l1 l2 _ ih =>
    intro ps h
    cases ps with
    | nil => cases h
    | cons a ps =>
      cases h with
      | cons h1 h2 =>
        obtain ⟨qs, q1, q2⟩ := ih h2
        exact ⟨a :: qs, q1.cons a, .cons h1 q2⟩
  | swap x y l =>
    intro ps h
    cases ps with
    | nil => cases h
    | cons a ps =>
      cases h with
      | cons h1 h2 =>
        cases ps with
        | nil => cases h2
        | cons b ps =>
          cases h2 with
          | cons h3 h4 => exact ⟨b :: a :: ps, List.Perm.swap a b ps, .cons h3 (.cons h1 h4)⟩
  | trans _ _ i1 i2 =>
    intro ps h
    obtain ⟨qs, q1, q2⟩ := i2 h
    obtain ⟨rs, r1, r2⟩ := i1 q2
    exact ⟨rs, r1.trans q1, r2⟩
/-- the pair at an address -/
def kOf (H : Hp) : V → Int × Int
  | .ref t => match H t with
    | some (.tup [.int a, .int b]) => (a, b)
    | _ => (0, 0)
  | _ => (0, 0)
theorem kOf_pl {v : V} {p : Pl} (h : Dq K H v (dPl p)) : kOf H v = ((p.1 : Int), (p.2 : Int)) ∧ ∃ t, v = V.ref t ∧ H t = some (.tup [.int p.1, .int p.2]) := by
  obtain ⟨t, xs, rfl, h1, h2⟩ := dp_tup h
  cases h2 with
  | cons a r => cases r with
    | cons b r =>
      cases r
      cases a; cases b
      refine ⟨?_, t, rfl, h1⟩
      unfold kOf
      simp only [h1]
theorem dps_mem {xs : List V} {ds : List PyData} (h : DqAll K H xs ds) {x : V} (hx : x ∈ xs) : ∃ d ∈ ds, Dq K H x d := by
  obtain ⟨i, hi, e⟩ := List.mem_iff_getElem.mp hx
  obtain ⟨d, h1, h2⟩ := dps_get' h (show xs[i]? = some x by rw [List.getElem?_eq_getElem hi, e])
  exact ⟨d, List.mem_of_getElem? h1, h2⟩
theorem sort_core {xs ys : List V} {ps : List Pl} (hx : DqAll K H xs (ps.map dPl)) (nd : ps.Nodup) (hs : SrtO.Srtd (ltP (kOf H)) ys) (hb : SrtO.Stb (ltP (kOf H)) ys xs) : ∃ qs : List Pl, qs.Perm ps ∧ qs.Pairwise plLt ∧ DqAll K H ys (qs.map dPl) := by
  obtain ⟨qs, h1, h2⟩ := dps_perm hb.perm hx
  refine ⟨qs, h1, ?_, h2⟩
  have go : ∀ (qs : List Pl) (ys : List V), qs.Nodup → DqAll K H ys (qs.map dPl) → ys.Pairwise (fun x y => ltP (kOf H) y x = false) → qs.Pairwise plLt := by
    intro qs
    induction qs with
    | nil => intro ys _ _ _; simp
    | cons a qs ih =>
      intro ys nd h2 hp
      cases h2 with
      | @cons v vs _ _ g1 g2 =>
        rw [List.pairwise_cons] at hp ⊢
        rw [List.nodup_cons] at nd
        refine ⟨fun b hb => ?_, ih vs nd.2 g2 hp.2⟩
        obtain ⟨i, hi, e⟩ := List.mem_iff_getElem.mp hb
        obtain ⟨u, u1, u2⟩ := dps_get g2 (i := i) (d := dPl b) (by rw [List.getElem?_map, List.getElem?_eq_getElem hi, e]; rfl)
        have h3 := hp.1 u (List.mem_of_getElem? u1)
        have ka := (kOf_pl g1).1
        have kb := (kOf_pl u2).1
        have h4 : SrtO.lexB (kOf H u) (kOf H v) = false := h3
        rw [ka, kb] at h4
        have h5 : ¬ (((b.1 : Int) < (a.1 : Int)) ∨ ((b.1 : Int) = (a.1 : Int) ∧ (b.2 : Int) < (a.2 : Int))) := fun z => by
          have := (SrtO.lexB_iff (p := ((b.1 : Int), (b.2 : Int))) (q := ((a.1 : Int), (a.2 : Int)))).mpr z
          rw [h4] at this
          cases this
        have h6 : ¬ a = b := fun z => nd.1 (z ▸ hb)
        have h7 : ¬ (a.1 = b.1 ∧ a.2 = b.2) := fun z => h6 (Prod.ext z.1 z.2)
        unfold plLt
        omega
  exact go qs ys (h1.nodup_iff.mpr nd) h2 hs
/-- tuple(sorted(ps)) -/
theorem p_sortL {ps : List Pl} (h : Eh K H0 Γ te (.list (ps.map dPl))) (nd : ps.Nodup) : Ph K H0 Γ (tCB (rTupOf K) (tCons (tCB (rSortedPO K) (tCons te tNil)) tNil)) (fun d => ∃ qs : List Pl, d = dHid qs ∧ qs.Perm ps ∧ qs.Pairwise plLt) := fun σ H e0 s Q q =>
  h σ H e0 s _ fun v H1 e1 h1 => by
    obtain ⟨p, xs, rfl, h3, h4⟩ := dp_lst h1
    refine ⟨p, xs, kOf H1, rfl, SqL.of h3, fun x hx => ?_, fun ys r hs hb hr => ?_⟩
    · obtain ⟨d, hd, hq⟩ := dps_mem h4 hx
      obtain ⟨a, _, rfl⟩ := List.mem_map.mp hd
      obtain ⟨k1, t, k2, k3⟩ := kOf_pl hq
      rw [k1]
      exact ⟨t, k2, k3⟩
    · obtain ⟨qs, g1, g2, g3⟩ := sort_core h4 nd hs hb
      have e2 := Ex.new (o := .lst ys) hr
      exact ⟨r, ys, rfl, .inl ⟨SqL.of upd_same, fun l hl => q _ _ _ (e1.trans (e2.trans (Ex.new hl))) (.tup upd_same (dps_ex (e2.trans (Ex.new hl)) _ _ g3)) ⟨qs, rfl, g1, g2⟩⟩⟩
theorem p_sortT {ps : List Pl} (h : Eh K H0 Γ te (dHid ps)) (nd : ps.Nodup) : Ph K H0 Γ (tCB (rTupOf K) (tCons (tCB (rSortedPT K) (tCons te tNil)) tNil)) (fun d => ∃ qs : List Pl, d = dHid qs ∧ qs.Perm ps ∧ qs.Pairwise plLt) := fun σ H e0 s Q q =>
  h σ H e0 s _ fun v H1 e1 h1 => by
    obtain ⟨p, xs, rfl, h3, h4⟩ := dp_tup h1
    refine ⟨p, xs, kOf H1, rfl, SqT.of h3, fun x hx => ?_, fun ys r hs hb hr => ?_⟩
    · obtain ⟨d, hd, hq⟩ := dps_mem h4 hx
      obtain ⟨a, _, rfl⟩ := List.mem_map.mp hd
      obtain ⟨k1, t, k2, k3⟩ := kOf_pl hq
      rw [k1]
      exact ⟨t, k2, k3⟩
    · obtain ⟨qs, g1, g2, g3⟩ := sort_core h4 nd hs hb
      have e2 := Ex.new (o := .lst ys) hr
      exact ⟨r, ys, rfl, .inl ⟨SqL.of upd_same, fun l hl => q _ _ _ (e1.trans (e2.trans (Ex.new hl))) (.tup upd_same (dps_ex (e2.trans (Ex.new hl)) _ _ g3)) ⟨qs, rfl, g1, g2⟩⟩⟩
theorem e_revP {x y : PyData} (h : Eh K H0 Γ te (.tuple [x, y])) : Eh K H0 Γ (tRevP K te) (.tuple [y, x]) := fun σ H e0 s Q q => h σ H e0 s _ fun v H1 e1 h1 => by
  obtain ⟨p, xs, rfl, h3, h4⟩ := dp_tup h1
  cases h4 with
  | cons a t => cases t with
    | cons b t =>
      cases t
      exact ⟨p, _, _, rfl, SqT.of h3, fun r hr => q _ _ (e1.trans (Ex.new hr)) (.tup upd_same (.cons (dp_ex (Ex.new hr) _ _ b) (.cons (dp_ex (Ex.new hr) _ _ a) .nil)))⟩
theorem e_index {ns : List Int} {i : Int} {j : Nat} (h : Eh K H0 Γ ta (.list (ns.map .int))) (hi : Eh K H0 Γ te (.int i)) (hj : ns[j]? = some i) (hn : ∀ m, m < j → ns[m]? ≠ some i) : Eh K H0 Γ (tBM K "list" (rIndex K) ta (tCons te tNil)) (.int (j : Nat)) := fun σ H e0 s Q q =>
  h σ H e0 s _ fun v H1 e1 h1 => by
    obtain ⟨p, xs, rfl, h3, h4⟩ := dp_lst h1
    rw [dps_ints h4] at h3
    refine ⟨.inl ⟨rfl, _, SqL.of h3⟩, hi σ H1 (e0.trans e1) (s.ex e1) _ fun u H2 e2 h2 => ?_⟩
    cases dp_int h2
    refine ⟨p, _, .int i, j, .int i, rfl, rfl, SqL.of (e2 _ _ h3), rfl, by simp [flatV], by rw [List.getElem?_map, hj]; rfl, by simp [eqV], fun m z hm hz => ?_, q _ H2 (e1.trans e2) (.int _)⟩
    rw [List.getElem?_map] at hz
    cases hq : ns[m]? with
    | none => rw [hq] at hz; cases hz
    | some y =>
      rw [hq] at hz
      have : z = .int y := (Option.some.inj hz).symm
      subst this
      have ne : y ≠ i := fun e => hn m hm (by rw [hq, e])
      simpa [eqV] using ne
end
/-! tables turned -/
def turnT (C : Tab) : Tab := (List.range (wd C)).map fun j => C.map fun r => r.getD j 0
theorem turn_row {C : Tab} {j : Nat} (h : j < wd C) : (turnT C).getD j [] = C.map fun r => r.getD j 0 := by
  unfold turnT
  rw [List.getD_eq_getElem?_getD, List.getElem?_map, List.getElem?_range h]
  rfl
theorem turn_vc {C : Tab} (hC : VC C) : VC (turnT C) ∧ wd (turnT C) = C.length ∧ (turnT C).length = wd C := by
  have l : (turnT C).length = wd C := by simp [turnT]
  have hw : wd (turnT C) = C.length := by
    unfold wd
    rw [turn_row hC.w1, List.length_map]
  have mem : ∀ r ∈ turnT C, ∃ j, j < wd C ∧ r = C.map fun r => r.getD j 0 := fun r hr => by
    obtain ⟨j, hj, rfl⟩ := List.mem_map.mp hr
    exact ⟨j, List.mem_range.mp hj, rfl⟩
  have ent : ∀ r ∈ turnT C, ∀ x ∈ r, ∃ r' ∈ C, x ∈ r' := fun r hr x hx => by
    obtain ⟨j, hj, rfl⟩ := mem r hr
    obtain ⟨r', hr', rfl⟩ := List.mem_map.mp hx
    exact ⟨r', hr', getD_mem (by rw [hC.rect r' hr']; exact hj) 0⟩
  refine ⟨⟨by rw [l]; exact hC.w1, by rw [l]; exact hC.w6, by rw [hw]; exact hC.l1, by rw [hw]; exact hC.l6, fun r hr => ?_, fun r hr x hx => ?_, fun r hr x hx => ?_⟩, hw, l⟩
  · obtain ⟨j, hj, rfl⟩ := mem r hr
    rw [List.length_map, hw]
  · obtain ⟨r', h1, h2⟩ := ent r hr x hx
    exact hC.nn r' h1 x h2
  · obtain ⟨r', h1, h2⟩ := ent r hr x hx
    exact hC.top r' h1 x h2
theorem turn_at {C : Tab} {q : Pl} (h1 : q.1 < C.length) (h2 : q.2 < wd C) : tat (turnT C) (q.2, q.1) = tat C q := by
  show ((turnT C).getD q.2 []).getD q.1 0 = (C.getD q.1 []).getD q.2 0
  rw [turn_row h2, List.getD_eq_getElem?_getD, List.getElem?_map, List.getElem?_eq_getElem h1, List.getD_eq_getElem?_getD (l := C), List.getElem?_eq_getElem h1]
  rfl
def swp (p : Pl) : Pl := (p.2, p.1)
theorem swp_inj {a b : Pl} (h : swp a = swp b) : a = b := Prod.ext (congrArg Prod.snd h) (congrArg Prod.fst h)
theorem nodup_map {α β : Type} {f : α → β} {xs : List α} (nd : xs.Nodup) (inj : ∀ a ∈ xs, ∀ b ∈ xs, f a = f b → a = b) : (xs.map f).Nodup := by
  induction xs with
  | nil => simp
  | cons a xs ih =>
    rw [List.nodup_cons] at nd
    rw [List.map_cons, List.nodup_cons]
    refine ⟨fun h => ?_, ih nd.2 fun x hx y hy e => inj x (by simp [hx]) y (by simp [hy]) e⟩
    obtain ⟨b, hb, e⟩ := List.mem_map.mp h
    exact nd.1 (by rw [inj a (by simp) b (by simp [hb]) e.symm]; exact hb)
theorem turn_vh {C : Tab} {hs qs : List Pl} (hC : VC C) (hH : VH C hs) (p : qs.Perm (hs.map swp)) (r : qs.Pairwise plLt) : VH (turnT C) qs := by
  refine ⟨fun q hq => ?_, r⟩
  obtain ⟨h, hh, rfl⟩ := List.mem_map.mp (p.mem_iff.mp hq)
  obtain ⟨_, hw, hl⟩ := turn_vc hC
  rw [hw, hl]
  exact ⟨(hH.inr h hh).2, (hH.inr h hh).1⟩
theorem turn_cert {less : Bool} {C : Tab} {hs qs : List Pl} {p : Pl} {n : Int} (hC : VC C) (hH : VH C hs) (pm : qs.Perm (hs.map swp)) (a : Cert less (tat C) hs p n) : Cert less (tat (turnT C)) qs (swp p) n :=
  Cert.flip pm (fun h hh => turn_at (hH.inr h hh).1 (hH.inr h hh).2) a
theorem turn_back {less : Bool} {C : Tab} {hs qs : List Pl} {p : Pl} {n : Int} (hC : VC C) (hH : VH C hs) (pm : qs.Perm (hs.map swp)) (a : Cert less (tat (turnT C)) qs (swp p) n) : Cert less (tat C) hs p n := by
  have pm2 : hs.Perm (qs.map swp) := by
    have := pm.map swp
    rw [List.map_map] at this
    have e : hs.map (swp ∘ swp) = hs := by
      have : (swp ∘ swp) = id := funext fun x => rfl
      rw [this, List.map_id]
    rw [e] at this
    exact this.symm
  refine Cert.flip (p := swp p) pm2 (fun h hh => ?_) a
  obtain ⟨g, hg, rfl⟩ := List.mem_map.mp (pm.mem_iff.mp hh)
  exact (turn_at (hH.inr g hg).1 (hH.inr g hg).2).symm
theorem turn_away {C : Tab} {hs qs rs : List Pl} (hC : VC C) (hH : VH C hs) (pm : qs.Perm (hs.map swp)) (r : qs.Pairwise plLt) (pm2 : rs.Perm ((awayL C hs).map swp)) (r2 : rs.Pairwise plLt) : awayL (turnT C) qs = rs := by
  refine rise_uniq (r.filter _) r2 (List.Perm.trans ?_ pm2.symm)
  have h1 : (qs.filter (isAway (turnT C) qs)).Perm ((hs.map swp).filter (isAway (turnT C) qs)) := pm.filter _
  have h2 : (hs.map swp).filter (isAway (turnT C) qs) = (awayL C hs).map swp := by
    rw [List.filter_map]
    unfold awayL
    congr 1
    refine List.filter_congr fun p hp => ?_
    show isAway (turnT C) qs (swp p) = isAway C hs p
    by_cases e : Away C hs p
    · rw [isAway_iff.mpr e]
      obtain ⟨n, a, b⟩ := e
      exact isAway_iff.mpr ⟨n, turn_cert hC hH pm a, turn_cert hC hH pm b⟩
    · have e1 : isAway C hs p = false := by
        cases hz : isAway C hs p with
        | false => rfl
        | true => exact absurd (isAway_iff.mp hz) e
      rw [e1]
      cases hz : isAway (turnT C) qs (swp p) with
      | false => rfl
      | true =>
        obtain ⟨n, a, b⟩ := isAway_iff.mp hz
        exact absurd ⟨n, turn_back hC hH pm a, turn_back hC hH pm b⟩ e
  rw [← h2]
  exact h1
/-! tables in another order -/
def sft (n b r : Nat) : Nat := if r + b < n then r + b else r + b - n
def unsft (n b i : Nat) : Nat := if b ≤ i then i - b else i + n - b
theorem sft_lt {n b r : Nat} (hb : b < n) (hr : r < n) : sft n b r < n := by unfold sft; split <;> omega
theorem unsft_lt {n b i : Nat} (hb : b < n) (hi : i < n) : unsft n b i < n := by unfold unsft; split <;> omega
theorem sft_un {n b i : Nat} (hb : b < n) (hi : i < n) : sft n b (unsft n b i) = i := by
  unfold sft unsft
  by_cases h : b ≤ i
  · rw [if_pos h, if_pos (by omega)]
    omega
  · rw [if_neg h, if_neg (by omega)]
    omega
theorem un_sft {n b r : Nat} (hb : b < n) (hr : r < n) : unsft n b (sft n b r) = r := by
  unfold sft unsft
  by_cases h : r + b < n
  · rw [if_pos h, if_pos (by omega)]
    omega
  · rw [if_neg h, if_neg (by omega)]
    omega
theorem sft_mod {n b r : Nat} (hb : b < n) (hr : r < n) : ((r : Int) + (b : Int)) % (n : Int) = ((sft n b r : Nat) : Int) := by
  unfold sft
  by_cases h : r + b < n
  · rw [if_pos h, Int.emod_eq_of_lt (by omega) (by omega)]
    omega
  · rw [if_neg h]
    have : ((r : Int) + (b : Int)) = ((r + b - n : Nat) : Int) + (n : Int) := by omega
    rw [this, Int.add_emod_right, Int.emod_eq_of_lt (by omega) (by omega)]
def moveT (C : Tab) (b : Nat) : Tab := (List.range C.length).map fun r => C.getD (sft C.length b r) []
theorem move_row {C : Tab} {b r : Nat} (h : r < C.length) : (moveT C b).getD r [] = C.getD (sft C.length b r) [] := by
  unfold moveT
  rw [List.getD_eq_getElem?_getD, List.getElem?_map, List.getElem?_range h]
  rfl
theorem move_vc {C : Tab} {b : Nat} (hC : VC C) (hb : b < C.length) : VC (moveT C b) ∧ wd (moveT C b) = wd C ∧ (moveT C b).length = C.length := by
  have l : (moveT C b).length = C.length := by simp [moveT]
  have hw : wd (moveT C b) = wd C := by
    show ((moveT C b).getD 0 []).length = wd C
    rw [move_row hC.l1]
    exact hC.row (sft_lt hb hC.l1)
  have mem : ∀ r ∈ moveT C b, r ∈ C := fun r hr => by
    obtain ⟨i, hi, rfl⟩ := List.mem_map.mp hr
    exact getD_mem (sft_lt hb (List.mem_range.mp hi)) _
  refine ⟨⟨by rw [l]; exact hC.l1, by rw [l]; exact hC.l6, by rw [hw]; exact hC.w1, by rw [hw]; exact hC.w6, fun r hr => ?_, fun r hr => hC.nn r (mem r hr), fun r hr => hC.top r (mem r hr)⟩, hw, l⟩
  rw [hw]
  exact hC.rect r (mem r hr)
def mvp (n b : Nat) (p : Pl) : Pl := (unsft n b p.1, p.2)
theorem move_cert {less : Bool} {C : Tab} {b : Nat} {hs qs : List Pl} {p : Pl} {n : Int} (hC : VC C) (hH : VH C hs) (hb : b < C.length) (hp : p ∈ hs) (pm : qs.Perm (hs.map (mvp C.length b))) (a : Cert less (tat C) hs p n) : Cert less (tat (moveT C b)) qs (mvp C.length b p) n := by
  refine Cert.move (f := unsft C.length b) (g := id) pm ⟨sft C.length b, id, fun h hh => ⟨sft_un hb (hH.inr h hh).1, rfl⟩⟩ hp (fun h hh => ?_) a
  show ((moveT C b).getD (unsft C.length b h.1) []).getD h.2 0 = tat C h
  rw [move_row (unsft_lt hb (hH.inr h hh).1), sft_un hb (hH.inr h hh).1]
  rfl
theorem move_vh {C : Tab} {b : Nat} {hs qs : List Pl} (hC : VC C) (hH : VH C hs) (hb : b < C.length) (p : qs.Perm (hs.map (mvp C.length b))) (r : qs.Pairwise plLt) : VH (moveT C b) qs := by
  refine ⟨fun q hq => ?_, r⟩
  obtain ⟨h, hh, rfl⟩ := List.mem_map.mp (p.mem_iff.mp hq)
  obtain ⟨_, hw, hl⟩ := move_vc hC hb
  rw [hw, hl]
  exact ⟨unsft_lt hb (hH.inr h hh).1, (hH.inr h hh).2⟩
theorem move_inj {C : Tab} {b : Nat} {hs : List Pl} (hH : VH C hs) (hb : b < C.length) : ∀ x ∈ hs, ∀ y ∈ hs, mvp C.length b x = mvp C.length b y → x = y := fun x hx y hy e => by
  have e1 : unsft C.length b x.1 = unsft C.length b y.1 := congrArg (fun z : Pl => z.1) e
  have e2 : (mvp C.length b x).2 = (mvp C.length b y).2 := by rw [e]
  refine Prod.ext ?_ e2
  rw [← sft_un hb (hH.inr x hx).1, e1, sft_un hb (hH.inr y hy).1]
end Ak
set_option Elab.async false
set_option linter.all false
set_option maxRecDepth 100000
set_option maxHeartbeats 4000000
/-! AkG5: turned and moved: right. -/
namespace Ak
open PySem PySem.Spec PyProof.Rows L2 Evl
section
variable {P : Program} {w : World} {K : PySem.W.Frag} {mg : Str → Option Value} {base : Heap} {H0 H H' H1 : Hp} {Γ : Env1} {ta tb te : TE} {d : PyData} {pp q : Addr} {k k1 k2 : Nat} {σ : Sg}
theorem Ph.is {R : PyData → Prop} (h : Ph K H0 Γ te R) (q : ∀ x, R x → x = d) : Eh K H0 Γ te d := fun σ H e0 s Q k => h σ H e0 s Q fun v x H1 e1 h1 p => k v H1 e1 (by rw [← q x p]; exact h1)
theorem at_rowN {T : Tab} {i : Nat} (h : i < T.length) : atI (T.map dRow) ((i : Nat) : Int) = some (dRow (T.getD i [])) := atI_nat (by
  rw [List.getElem?_map, List.getD_eq_getElem?_getD, List.getElem?_eq_getElem h]
  rfl)
theorem mem_perm_map {f : Pl → Pl} {qs hs : List Pl} {p : Pl} (pm : qs.Perm (hs.map f)) (h : p ∈ hs) : f p ∈ qs := pm.mem_iff.mpr (List.mem_map.mpr ⟨p, h, rfl⟩)
def spTurn (K : PySem.W.Frag) : Sp := fun vs H Q _ => ∃ (pp : Addr) (k : Nat) (C : Tab) (hs : List Pl) (p : Pl) (n m : Int) (wh : Bool) (c h pv ev : V), vs = [.ref pp, c, h, pv, ev, .bl wh] ∧ PotAt H pp k ∧ k ≤ 100000 ∧ Dq K H c (dTab C) ∧ Dq K H h (dHid hs) ∧ Dq K H pv (dPl p) ∧ Dq K H ev (dEnds n m) ∧
  VC C ∧ VH C hs ∧ p ∈ hs ∧ Cert true (tat C) hs p n ∧ Cert false (tat C) hs p m ∧ ∀ H', Xp pp H H' → PotAt H' pp (k + 1) → Q (.bl true) H'
theorem ok_law_turned_right (F : Fn K mg "_law_turned_right" s_law_turned_right p_law_turned_right) (T : Tx0 K mg) (c_law_take : Ca P w K mg base "_law_take" 1 p_law_take (spTake K)) (c_law_ends : Ca P w K mg base "_law_ends" 8 p_law_ends (spEnds K)) (c_given_away : Ca P w K mg base "given_away" 8 p_given_away (spAway K)) :
    Ca P w K mg base "_law_turned_right" 9 p_law_turned_right (spTurn K) := by
  refine F.ca sc_law_turned_right (fun vs H Q E h => by obtain ⟨pp, k, C, hs, p, n, m, wh, c, h, plv, ev, rfl, _⟩ := h; rfl) (fun f cdv A outer s H vs Q E hr h => ?_)
  obtain ⟨pp, k, C, hs, p, n, m, wh, c, hv, plv, ev, rfl, pot, hk, hc, hh, hpv, hev, hC, hH, hp, ca, cb, kk⟩ := h
  have nd := sc_law_turned_right.nd
  have l1 := hC.l1
  have l6 := hC.l6
  have w6 := hC.w6
  have hlen := hH.len hC
  refine ⟨_, (pss_cons (ps_set (i := 6) nd rfl (Or.inl rfl) (pe_callTy (ck_tupK K rfl) (by rfl) T.tuple_ (by decide +kernel) (pa_cons (pe_lc (own := [("_law_at", 15)]) rfl nd (pi_range1 (by rfl) T.range_ (pa_cons (pe_callB (ck_lenK K rfl) (by rfl) T.len_ PySem.boot_len (pa_cons (pe_ix (ix_tupK K rfl) (pv 1) pe_int (fun _ _ => rfl)) pa_nil)) pa_nil)) (blkOk_by (N := n_law_turned_right) (sc := defScope s_law_turned_right) (by decide +kernel)) (fun _ _ _ _ _ => (pg_name (i := 15) nd rfl (Or.inr rfl))) (fun _ _ _ _ _ => pts_nil) (fun _ _ _ _ _ => (pe_callTy (ck_tupK K rfl) (by rfl) T.tuple_ (by decide +kernel) (pa_cons (pe_lc (own := [("_law_line", 17)]) rfl nd (pi_tupK K rfl (pv 1)) (by show BlkOk n_law_turned_right (relS _ (defScope s_law_turned_right)) _ _; exact blkOk_by (by decide +kernel)) (fun _ _ _ _ _ => (pg_name (i := 17) nd rfl (Or.inl rfl))) (fun _ _ _ _ _ => pts_nil) (fun _ _ _ _ _ => (pe_ix (ix_tupK K rfl) (pv 17) (pv 15) (fun _ _ => rfl)))) pa_nil)))) pa_nil)))
    (pss_cons (ps_set (i := 7) nd rfl (Or.inl rfl) (pe_callTy (ck_tupK K rfl) (by rfl) T.tuple_ (by decide +kernel) (pa_cons (pe_callB (ck_sortLK K rfl) (by rfl) T.sorted_ (by decide +kernel) (pa_cons (pe_lc (own := [("_law_other", 16)]) rfl nd (pi_tupK K rfl (pv 2)) (blkOk_by (N := n_law_turned_right) (sc := defScope s_law_turned_right) (by decide +kernel)) (fun _ _ _ _ _ => (pg_name (i := 16) nd rfl (Or.inl rfl))) (fun _ _ _ _ _ => pts_nil) (fun _ _ _ _ _ => (pe_revPK K rfl (pv 16)))) pa_nil)) pa_nil)))
    (pss_cons (ps_if (pt_cmpR (op_neDK K rfl hr.units) (pe_ca c_law_ends hr (by decide) (by rfl) (pa_cons (pv 6) (pa_cons (pv 7) (pa_cons (pe_revPK K rfl (pv 3)) pa_nil)))) (pv 4) (nomark _)) (pss_one (ps_ret pe_bl)) pss_nil)
    (pss_cons (ps_if (pt_val (pv 5)) (pss_cons (ps_setLc (i := 13) (own := [("_law_other", 16)]) rfl nd rfl rfl (sw_true rfl rfl rfl (by decide +kernel)) (pi_tupK K rfl (pe_ca c_given_away hr (by decide) (by rfl) (pa_cons (pv 1) (pa_cons (pv 2) pa_nil)))) (blkOk_by (N := n_law_turned_right) (sc := defScope s_law_turned_right) (by decide +kernel)) (fun _ _ _ _ _ => (pg_name (i := 16) nd rfl (Or.inl rfl))) (fun _ _ _ _ _ => pts_nil) (fun _ _ _ _ _ => (pe_revPK K rfl (pv 16))))
    (pss_one (ps_if (pt_cmpR (op_neDK K rfl hr.units) (pe_ca c_given_away hr (by decide) (by rfl) (pa_cons (pv 6) (pa_cons (pv 7) pa_nil))) (pe_callTy (ck_tupK K rfl) (by rfl) T.tuple_ (by decide +kernel) (pa_cons (pe_callB (ck_sortLK K rfl) (by rfl) T.sorted_ (by decide +kernel) (pa_cons (pv 13) pa_nil)) pa_nil)) (nomark _)) (pss_one (ps_ret pe_bl)) pss_nil))) pss_nil)
    (pss_cons (ps_set (i := 8) nd rfl (Or.inr rfl) (pe_callB (ck_lenK K rfl) (by rfl) T.len_ PySem.boot_len (pa_cons (pv 1) pa_nil)))
    (pss_cons (ps_set (i := 9) nd rfl (Or.inr rfl) (pe_ca c_law_take hr (by decide) (by rfl) (pa_cons (pv 0) (pa_cons (pv 8) pa_nil))))
    (pss_cons (ps_set (i := 10) nd rfl (Or.inr rfl) (pe_lc (own := [("_law_row", 14)]) rfl nd (pi_range1 (by rfl) T.range_ (pa_cons (pv 8) pa_nil)) (blkOk_by (N := n_law_turned_right) (sc := defScope s_law_turned_right) (by decide +kernel)) (fun _ _ _ _ _ => (pg_name (i := 14) nd rfl (Or.inl rfl))) (fun _ _ _ _ _ => pts_nil) (fun _ _ _ _ _ => (pe_op op_mod (pe_op op_add (pv 14) (pv 9)) (pv 8)))))
    (pss_cons (ps_set (i := 11) nd rfl (Or.inl rfl) (pe_callTy (ck_tupK K rfl) (by rfl) T.tuple_ (by decide +kernel) (pa_cons (pe_lc (own := [("_law_row", 14)]) rfl nd (pi_listK K rfl (pv 10)) (blkOk_by (N := n_law_turned_right) (sc := defScope s_law_turned_right) (by decide +kernel)) (fun _ _ _ _ _ => (pg_name (i := 14) nd rfl (Or.inl rfl))) (fun _ _ _ _ _ => pts_nil) (fun _ _ _ _ _ => (pe_ix (ix_tupK K rfl) (pv 1) (pv 14) (fun _ _ => rfl)))) pa_nil)))
    (pss_cons (ps_set (i := 12) nd rfl (Or.inl rfl) (pe_callTy (ck_tupK K rfl) (by rfl) T.tuple_ (by decide +kernel) (pa_cons (pe_callB (ck_sortLK K rfl) (by rfl) T.sorted_ (by decide +kernel) (pa_cons (pe_lc (own := [("_law_row", 14), ("_law_column", 18)]) rfl nd (pi_tupK K rfl (pv 2)) (blkOk_by (N := n_law_turned_right) (sc := defScope s_law_turned_right) (by decide +kernel)) (fun _ _ _ _ _ => (pg_tupK K rfl (n := 2) rfl (pgs_cons (pg_name (i := 14) nd rfl (Or.inl rfl)) (pgs_cons (pg_name (i := 18) nd rfl (Or.inl rfl)) pgs_nil)))) (fun _ _ _ _ _ => pts_nil) (fun _ _ _ _ _ => (pe_tup (pa_cons (pe_bmK K rfl PySem.F.plainAttrs_list PySem.F.slot_list_index PySem.F.type_list_index (mt_indexK K rfl) (pv 10) (pa_cons (pv 14) pa_nil)) (pa_cons (pv 18) pa_nil))))) pa_nil)) pa_nil)))
    (pss_one (ps_ret (pe_cmpR (op_eqDK K rfl hr.units) (pe_ca c_law_ends hr (by decide) (by rfl) (pa_cons (pv 11) (pa_cons (pv 12) (pa_cons (pe_tup (pa_cons (pe_bmK K rfl PySem.F.plainAttrs_list PySem.F.slot_list_index PySem.F.type_list_index (mt_indexK K rfl) (pv 10) (pa_cons (pe_ix (ix_tupK K rfl) (pv 3) pe_int (fun _ _ => rfl)) pa_nil)) (pa_cons (pe_ix (ix_tupK K rfl) (pv 3) pe_int (fun _ _ => rfl)) pa_nil))) pa_nil)))) (pv 4) (nomark _))))))))))))), ?_⟩
  have S : Sl K H _ [.v (.ref pp), .d (dTab C), .d (dHid hs), .d (dPl p), .d (dEnds n m), .d (.bool wh), .no, .no, .no, .no, .no, .no, .no, .no, .no, .no, .no, .no, .no] := sl_mix (.v (.d hc (.d hh (.d hpv (.d hev (.d (.bl wh) .nil)))))) n_law_turned_right
  obtain ⟨hCt, hwt, hlt⟩ := turn_vc hC
  refine s_asg (H0 := fun _ => none) (d := dTab (turnT C)) ((e_tupOf (l_lcA (List.range (wd C)) (fun j => .int (j : Nat)) (fun j => dRow (C.map fun r => r.getD j 0)) _ (i_range (row0 hC (e_var rfl)) (by omega)) (by rw [List.length_range]; omega) (js := [15]) (by simp) (fun _ _ => tg_name)
    (fun j hj => (e_tupOf (l_lcA C dRow (fun r => .int (r.getD j 0)) _ (i_tup (e_var rfl)) (by omega) (js := [17]) (by simp) (fun _ _ => tg_name) (fun r hr => e_ixT (e_var rfl) (e_var rfl) (at_int (by rw [hC.rect r hr]; exact List.mem_range.mp hj))) (fun _ => rfl)).eh).to (by unfold dRow; rw [List.map_map]; rfl)) (fun j => tuO_row _)).eh).to (by unfold dTab turnT; rw [List.map_map]; rfl)) exN S fun σ1 H1 e1 S1 => ?_
  refine s_asgP (H0 := fun _ => none) (p_sortL (ps := hs.map swp) ((l_lcA hs dPl (fun p => dPl (swp p)) _ (i_tup (e_var rfl)) (by omega) (js := [16]) (by simp) (fun _ _ => tg_name) (fun p _ => e_revP (e_var rfl)) (fun p => tuO_pl _)).eh.to (by rw [List.map_map]; rfl)) (nodup_map hH.nd fun a _ b _ e => swp_inj e)) exN S1 fun σ2 H2 dq e2 hq S2 => ?_
  obtain ⟨qs, rfl, pm, rise⟩ := hq
  have hHt := turn_vh hC hH pm rise
  have hpt : swp p ∈ qs := mem_perm_map pm hp
  refine s_ifF (H0 := fun _ => none) ((b_test (e_neD (e_ends (C := turnT C) (hs := qs) (p := swp p) (a_cons (e_var rfl) (a_cons (e_var rfl) (a_cons (e_revP (e_var rfl)) a_nil))) hCt hHt hpt (turn_cert hC hH pm ca) (turn_cert hC hH pm cb)) (e_var rfl) (shaped_ends n m) (shaped_ends n m))).to (by rw [eqv_same (shaped_ends n m)]; rfl)) exN S2 fun H3 e3 S3 => ?_
  refine s_via (fun σ4 H4 => Ex H3 H4 ∧ Sl K H4 σ4 [.v (.ref pp), .d (dTab C), .d (dHid hs), .d (dPl p), .d (dEnds n m), .d (.bool wh), .d (dTab (turnT C)), .d (dHid qs), .no, .no, .no, .no, .no, .no, .no, .no, .no, .no, .no]) ?_ ?_
  · rintro σ4 H4 ⟨e4, S4⟩
    have ex4 : Ex H H4 := (e1.trans e2).trans (e3.trans e4)
    refine s_asg (H0 := fun _ => none) (row1 (e_var rfl)) exN S4 fun σ5 H5 e5 S5 => ?_
    have pot5 := pot.ex' (ex4.trans e5)
    refine s_asgMi (mv_take (n := 0) rfl (e_var rfl) (by omega) (by omega) (by omega)) (by simp [En.ok, tuO_tab, tuO_hid, tuO_pl, tuO, dEnds, tuOs]) S5 pot5 fun σ6 H6 by' x6 pot6 hby S6 => ?_
    obtain ⟨b, rfl⟩ : ∃ b : Nat, by' = (b : Int) := ⟨by'.toNat, by omega⟩
    have hb : b < C.length := by omega
    refine s_asg (H0 := fun _ => none) (d := .list (((List.range C.length).map fun r => ((sft C.length b r : Nat) : Int)).map .int)) ((l_lcA (List.range C.length) (fun r => .int (r : Nat)) (fun r => .int ((sft C.length b r : Nat) : Int)) _ (i_range (e_var rfl) (by omega)) (by rw [List.length_range]; omega) (js := [14]) (by simp) (fun _ _ => tg_name)
      (fun r hr => (e_mod (e_add (e_var rfl) (e_var rfl)) (e_var rfl) (by omega)).to (by rw [sft_mod hb (List.mem_range.mp hr)])) (fun _ => rfl)).eh.to (by rw [List.map_map]; rfl)) exN S6 fun σ7 H7 e7 S7 => ?_
    refine s_asg (H0 := fun _ => none) (d := dTab (moveT C b)) ((e_tupOf (l_lcA (List.range C.length) (fun r => .int ((sft C.length b r : Nat) : Int)) (fun r => dRow (C.getD (sft C.length b r) [])) _ (i_list ((e_var rfl).to (by rw [List.map_map]; rfl))) (by rw [List.length_range]; omega) (js := [14]) (by simp) (fun _ _ => tg_name)
      (fun r hr => e_ixT (e_var rfl) (e_var rfl) (at_rowN (sft_lt hb (List.mem_range.mp hr)))) (fun r => tuO_row _)).eh).to (by unfold dTab moveT; rw [List.map_map]; rfl)) exN S7 fun σ8 H8 e8 S8 => ?_
    have idx : ∀ q ∈ hs, ((List.range C.length).map fun r => ((sft C.length b r : Nat) : Int))[unsft C.length b q.1]? = some ((q.1 : Nat) : Int) ∧ ∀ j, j < unsft C.length b q.1 → ((List.range C.length).map fun r => ((sft C.length b r : Nat) : Int))[j]? ≠ some ((q.1 : Nat) : Int) := fun q hq => by
      have h1 := (hH.inr q hq).1
      have h2 := unsft_lt hb h1
      refine ⟨by rw [List.getElem?_map, List.getElem?_range h2]; show some ((sft C.length b (unsft C.length b q.1) : Nat) : Int) = _; rw [sft_un hb h1], fun j hj z => ?_⟩
      have hj2 : j < C.length := by omega
      rw [List.getElem?_map, List.getElem?_range hj2] at z
      have z2 : ((sft C.length b j : Nat) : Int) = ((q.1 : Nat) : Int) := Option.some.inj z
      have z3 : sft C.length b j = q.1 := by omega
      have z4 := un_sft hb hj2
      rw [z3] at z4
      omega
    refine s_asgP (H0 := fun _ => none) (p_sortL (ps := hs.map (mvp C.length b)) ((l_lcA hs dPl (fun p => dPl (mvp C.length b p)) _ (i_tup (e_var rfl)) (by omega) (js := [14, 18]) (by simp) (fun _ _ => tg_2) (fun q hq => e_tup (a_cons (e_index (e_var rfl) (e_var rfl) (idx q hq).1 (idx q hq).2) (a_cons (e_var rfl) a_nil)) (by simp)) (fun p => tuO_pl _)).eh.to (by rw [List.map_map]; rfl)) (nodup_map hH.nd (move_inj hH hb))) exN S8 fun σ9 H9 dq e9 hq S9 => ?_
    obtain ⟨rs, rfl, pmr, riser⟩ := hq
    obtain ⟨hCm, hwm, hlm⟩ := move_vc hC hb
    refine s_ret (H0 := fun _ => none) ((e_eqD (e_ends (C := moveT C b) (hs := rs) (p := mvp C.length b p) (a_cons (e_var rfl) (a_cons (e_var rfl) (a_cons (e_tup (a_cons (e_index (e_var rfl) (e_ixT (e_var rfl) e_int at0) (idx p hp).1 (idx p hp).2) (a_cons (e_ixT (e_var rfl) e_int at1) a_nil)) (by simp)) a_nil))) hCm (move_vh hC hH hb pmr riser) (mem_perm_map pmr hp) (move_cert hC hH hb hp pmr ca) (move_cert hC hH hb hp pmr cb)) (e_var rfl) (shaped_ends n m) (shaped_ends n m)).to (by rw [eqv_same (shaped_ends n m)])) exN S9 fun v H10 e10 d10 => ?_
    cases dp_bl d10
    have ex6 := (e7.trans e8).trans (e9.trans e10)
    exact kk H10 (((Xp.of (ex4.trans e5)).trans x6).trans (Xp.of ex6)) (pot6.ex' ex6)
  · intro D' nx
    refine s_ifL (H0 := fun _ => none) (b_B (e_var rfl)) exN S3 (fun b H4 e4 S4 => ?_) (fun b H4 e4 S4 => ?_)
    · refine s_asg (H0 := fun _ => none) (d := .list (((awayL C hs).map swp).map dPl)) ((l_lcA (awayL C hs) dPl (fun p => dPl (swp p)) _ (i_tup (e_call (d := dHid (awayL C hs)) (C, hs) (a_cons (e_var rfl) (a_cons (e_var rfl) a_nil)) ⟨hC, hH⟩ fun _ p => p)) (by
        have := List.length_filter_le (isAway C hs) hs
        show (hs.filter (isAway C hs)).length ≤ 40000
        omega) (js := [16]) (by simp) (fun _ _ => tg_name) (fun p _ => e_revP (e_var rfl)) (fun p => tuO_pl _)).eh.to (by rw [List.map_map]; rfl)) exN S4 fun σ5 H5 e5 S5 => ?_
      refine s_ifLF (H0 := fun _ => none) ((b_test (e_neD (e_call (d := dHid (awayL (turnT C) qs)) (turnT C, qs) (a_cons (e_var rfl) (a_cons (e_var rfl) a_nil)) ⟨hCt, hHt⟩ fun _ p => p) (Ph.is (d := dHid (awayL (turnT C) qs)) (p_sortL (ps := (awayL C hs).map swp) (e_var rfl) (nodup_map (hH.nd.sublist List.filter_sublist) fun a _ b _ e => swp_inj e)) ?_) (shaped_hid _) (shaped_hid _))).to (by rw [eqv_same (shaped_hid _)]; rfl)) exN S5 fun H6 e6 S6 => nx _ _ ⟨(e4.trans e5).trans e6, S6.clr 13⟩
      rintro x ⟨rs, rfl, h1, h2⟩
      rw [turn_away hC hH pm rise h1 h2]
    · exact nx _ _ ⟨e4, S4⟩
end
end Ak
set_option Elab.async false
set_option linter.all false
set_option maxRecDepth 100000
set_option maxHeartbeats 4000000
/-! AkG6: places more, counts so many times: right. -/
namespace Ak
open PySem PySem.Spec PyProof.Rows L2 Evl
/-! the greatest -/
noncomputable def mx (r : List Int) : Int := @dite Int (∃ m, m ∈ r ∧ ∀ y ∈ r, y ≤ m) (Classical.propDecidable _) (fun h => Classical.choose h) (fun _ => 0)
theorem mx_eq {r : List Int} {m : Int} (hm : m ∈ r) (h : ∀ y ∈ r, y ≤ m) : mx r = m := by
  have ex : ∃ m, m ∈ r ∧ ∀ y ∈ r, y ≤ m := ⟨m, hm, h⟩
  have hs := Classical.choose_spec ex
  have e : mx r = Classical.choose ex := by
    unfold mx
    exact dif_pos ex
  rw [e]
  exact Int.le_antisymm (h _ hs.1) (hs.2 _ hm)
theorem mx_ex : ∀ {r : List Int}, 0 < r.length → ∃ m, m ∈ r ∧ ∀ y ∈ r, y ≤ m
  | [], h => absurd h (by simp)
  | [a], _ => ⟨a, by simp, by simp⟩
  | a :: b :: r, _ => by
    obtain ⟨m, h1, h2⟩ := mx_ex (r := b :: r) (by simp)
    by_cases q : a ≤ m
    · refine ⟨m, List.mem_cons_of_mem _ h1, fun y hy => ?_⟩
      rcases List.mem_cons.mp hy with e | hy
      · rw [e]; exact q
      · exact h2 y hy
    · refine ⟨a, by simp, fun y hy => ?_⟩
      rcases List.mem_cons.mp hy with e | hy
      · rw [e]; exact Int.le_refl _
      · have := h2 y hy
        omega
theorem mx_mem {r : List Int} (h : 0 < r.length) : mx r ∈ r ∧ ∀ y ∈ r, y ≤ mx r := by
  obtain ⟨m, h1, h2⟩ := mx_ex h
  rw [mx_eq h1 h2]
  exact ⟨h1, h2⟩
/-- .. of a table -/
theorem mx_tab {C : Tab} (h0 : 0 < C.length) (hr : ∀ r ∈ C, 0 < r.length) : (∃ r ∈ C, mx (C.map mx) ∈ r) ∧ ∀ r ∈ C, ∀ x ∈ r, x ≤ mx (C.map mx) := by
  obtain ⟨h1, h2⟩ := mx_mem (r := C.map mx) (by simpa using h0)
  refine ⟨?_, fun r hrc x hx => ?_⟩
  · obtain ⟨r, hrc, e⟩ := List.mem_map.mp h1
    exact ⟨r, hrc, by rw [← e]; exact (mx_mem (hr r hrc)).1⟩
  · exact Int.le_trans ((mx_mem (hr r hrc)).2 x hx) (h2 _ (List.mem_map.mpr ⟨r, hrc, rfl⟩))
/-! so many times -/
def timesT (C : Tab) (b : Int) : Tab := C.map fun r => r.map fun x => x * b
theorem times_at {C : Tab} {b : Int} (q : Pl) : tat (timesT C b) q = tat C q * b := by
  unfold tat timesT
  rw [List.getD_eq_getElem?_getD (l := List.map _ C), List.getElem?_map, List.getD_eq_getElem?_getD (l := C)]
  cases C[q.1]? with
  | none => simp
  | some r =>
    show (r.map fun x => x * b).getD q.2 0 = r.getD q.2 0 * b
    rw [List.getD_eq_getElem?_getD, List.getElem?_map, List.getD_eq_getElem?_getD]
    cases r[q.2]? with
    | none => simp
    | some x => rfl
theorem times_wd {C : Tab} {b : Int} : wd (timesT C b) = wd C := by
  unfold wd timesT
  rw [List.getD_eq_getElem?_getD, List.getElem?_map, List.getD_eq_getElem?_getD]
  cases C[0]? with
  | none => rfl
  | some r => simp
theorem times_vc {C : Tab} {b : Int} (hC : VC C) (hb : 0 ≤ b) (h : ∀ r ∈ C, ∀ x ∈ r, x * b ≤ 1000000000) : VC (timesT C b) := by
  have l : (timesT C b).length = C.length := by simp [timesT]
  have mem : ∀ r ∈ timesT C b, ∃ r' ∈ C, r = r'.map fun x => x * b := fun r hr => by
    obtain ⟨r', h1, rfl⟩ := List.mem_map.mp hr
    exact ⟨r', h1, rfl⟩
  refine ⟨by rw [l]; exact hC.l1, by rw [l]; exact hC.l6, by rw [times_wd]; exact hC.w1, by rw [times_wd]; exact hC.w6, fun r hr => ?_, fun r hr x hx => ?_, fun r hr x hx => ?_⟩
  · obtain ⟨r', h1, rfl⟩ := mem r hr
    rw [List.length_map, times_wd]
    exact hC.rect r' h1
  · obtain ⟨r', h1, rfl⟩ := mem r hr
    obtain ⟨y, hy, rfl⟩ := List.mem_map.mp hx
    exact Int.mul_nonneg (hC.nn r' h1 y hy) hb
  · obtain ⟨r', h1, rfl⟩ := mem r hr
    obtain ⟨y, hy, rfl⟩ := List.mem_map.mp hx
    exact h r' h1 y hy
theorem times_vh {C : Tab} {b : Int} {hs : List Pl} (hH : VH C hs) : VH (timesT C b) hs := ⟨fun h hh => by rw [times_wd]; simpa [timesT] using hH.inr h hh, hH.rise⟩
theorem times_cert {less : Bool} {C : Tab} {hs : List Pl} {p : Pl} {n b : Int} (hb : 0 ≤ b) (a : Cert less (tat C) hs p n) : Cert less (tat (timesT C b)) hs p (n * b) := by
  have e : tat (timesT C b) = fun q => tat C q * b := funext fun q => times_at q
  rw [e]
  exact a.scale hb
theorem times_away {C : Tab} {hs : List Pl} {b : Int} (hC : VC C) (hH : VH C hs) (hb : 1 ≤ b) : awayL (timesT C b) hs = awayL C hs := by
  unfold awayL
  refine List.filter_congr fun p hp => ?_
  have iff : Away (timesT C b) hs p ↔ Away C hs p := by
    constructor
    · rintro ⟨n, ⟨_, u, v, P⟩, _, u', v', P'⟩
      have e : tat (timesT C b) = fun q => tat C q * b := funext fun q => times_at q
      rw [e] at P P'
      have s1 : ∀ u v : Nat → Int, sumF hs (fun h => tat C h * b * wt u v h) = b * sumF hs (fun h => tat C h * wt u v h) := fun u v => by
        rw [← sumF_mulL]
        refine sumF_congr fun h _ => ?_
        grind
      have p1 : CPap true (tat C) hs p (sumF hs (fun h => tat C h * wt u v h)) u v := ⟨P.lt, P.gt, rfl⟩
      have p2 : CPap false (tat C) hs p (sumF hs (fun h => tat C h * wt u' v' h)) u' v' := ⟨P'.lt, P'.gt, rfl⟩
      have q1 := P.sum
      have q2 := P'.sum
      have q1' : b * sumF hs (fun h => tat C h * wt u v h) = n := by rw [← s1]; exact q1
      have q2' : b * sumF hs (fun h => tat C h * wt u' v' h) = n := by rw [← s1]; exact q2
      have eq : sumF hs (fun h => tat C h * wt u v h) = sumF hs (fun h => tat C h * wt u' v' h) := Int.eq_of_mul_eq_mul_left (show b ≠ 0 by omega) (q1'.trans q2'.symm)
      have W : CTab (tat C) hs p (tat C p) (tat C) := ⟨fun h _ => hC.tat_nn h, EqM.refl _ _, rfl⟩
      have w1 := weak_lo hH.nd hp p1 W
      have w2 := weak_hi hH.nd hp p2 W
      have e1 : sumF hs (fun h => tat C h * wt u v h) = tat C p := by omega
      have e2 : sumF hs (fun h => tat C h * wt u' v' h) = tat C p := by omega
      rw [e1] at p1
      rw [e2] at p2
      exact ⟨tat C p, ⟨⟨tat C, W⟩, u, v, p1⟩, ⟨tat C, W⟩, u', v', p2⟩
    · rintro ⟨n, a, c⟩
      exact ⟨n * b, times_cert (by omega) a, times_cert (by omega) c⟩
  cases h1 : isAway C hs p with
  | true => exact isAway_iff.mpr (iff.mpr (isAway_iff.mp h1))
  | false =>
    cases h2 : isAway (timesT C b) hs p with
    | false => rfl
    | true =>
      rw [isAway_iff.mpr (iff.mp (isAway_iff.mp h2))] at h1
      cases h1
section
variable {P : Program} {w : World} {K : PySem.W.Frag} {mg : Str → Option Value} {base : Heap} {H0 H H' H1 : Hp} {Γ : Env1} {ta tb te : TE} {d : PyData} {pp q : Addr} {k k1 k2 : Nat} {σ : Sg}
theorem e_maxT {r : List Int} (h : Eh K H0 Γ te (dRow r)) (h0 : 0 < r.length) : Eh K H0 Γ (tCB (rMaxT K) (tCons te tNil)) (.int (mx r)) := e_cb1 h fun v H Q h q => by
  obtain ⟨p, xs, rfl, h3, h4⟩ := dp_tup h
  rw [dps_ints h4] at h3
  exact ⟨p, r, rfl, SqT.of h3, h0, fun m hm hy => by rw [mx_eq hm hy] at q; exact q _ H (Ex.refl H) (.int m)⟩
theorem e_maxL {r : List Int} (h : Eh K H0 Γ te (.list (r.map .int))) (h0 : 0 < r.length) : Eh K H0 Γ (tCB (rMax K) (tCons te tNil)) (.int (mx r)) := e_cb1 h fun v H Q h q => by
  obtain ⟨p, xs, rfl, h3, h4⟩ := dp_lst h
  rw [dps_ints h4] at h3
  exact ⟨p, r, rfl, SqL.of h3, h0, fun m hm hy => by rw [mx_eq hm hy] at q; exact q _ H (Ex.refl H) (.int m)⟩
/-- l.extend(e) -/
theorem s_extL {n : Nat} {p : Addr} {xs : List V} {ds : List PyData} {D : Ends} (h : Lh K H0 Γ te ds) (e0 : Ex H0 H) (s : Sl K H σ Γ) (hn : Γ[n]? = some (.v (.ref p))) (hl : H p = some (.lst xs)) (hz : xs.length + ds.length ≤ 100000)
    (kk : ∀ H1 ys, Ex H H1 → DqAll K H1 ys ds → Sl K H1 σ Γ → D.nx σ (upd H1 p (.lst (xs ++ ys)))) : tDrop (tBM K "list" rExtend (tVar n) (tCons te tNil)) D σ H :=
  ⟨_, s.val hn, .inl ⟨rfl, xs, SqL.of hl⟩, h σ H e0 s _ fun b ys H1 hb e1 h1 d1 => ⟨p, b, xs, ys, rfl, rfl, e1 _ _ hl, h1, by rw [dps_len d1]; exact sz_of hz, kk H1 ys e1 d1 (s.ex e1)⟩⟩
theorem s_asgEnds {R : Int → Int → Prop} {i j : Nat} {tz : TS} {D : Ends} (h : Ph K H0 Γ te (fun d => ∃ n m, d = dEnds n m ∧ R n m)) (e0 : Ex H0 H) (s : Sl K H σ Γ)
    (kk : ∀ σ' H1 n m, Ex H H1 → R n m → Sl K H1 σ' ((Γ.set i (.d (.int n))).set j (.d (.int m))) → tz D σ' H1) : tSeq (tAsg te (gTup K 2 (gCons (gName i) (gCons (gName j) gNil)))) tz D σ H :=
  h σ H e0 s _ fun v d H1 e1 d1 ⟨n, m, e, r⟩ => by
    subst e
    exact tg_2 v σ H1 _ d1 (s.ex e1) fun σ' s' _ => kk σ' H1 n m e1 r s'
theorem p_ends {C : Tab} {hs : List Pl} {p : Pl} {E : XK} {tr : TA} (h : Ah K H0 Γ tr [dTab C, dHid hs, dPl p]) (hC : VC C) (hH : VH C hs) (hp : p ∈ hs) : Ph K H0 Γ (tCall (spEnds K) [] E tr) (fun d => ∃ n m, d = dEnds n m ∧ Cert true (tat C) hs p n ∧ Cert false (tat C) hs p m) :=
  p_call (post := fun (a : Tab × List Pl × Pl) d => ∃ n m, d = dEnds n m ∧ Cert true (tat a.1) a.2.1 a.2.2 n ∧ Cert false (tat a.1) a.2.1 a.2.2 m) (C, hs, p) h ⟨hC, hH, hp⟩
def spMore (K : PySem.W.Frag) : Sp := fun vs H Q _ => ∃ (pp : Addr) (k : Nat) (C : Tab) (hs : List Pl) (p : Pl) (n m : Int) (wh : Bool) (c h plv ev : V), vs = [.ref pp, c, h, plv, ev, .bl wh] ∧ PotAt H pp k ∧ k ≤ 100000 ∧ Dq K H c (dTab C) ∧ Dq K H h (dHid hs) ∧ Dq K H plv (dPl p) ∧ Dq K H ev (dEnds n m) ∧
  VC C ∧ VH C hs ∧ p ∈ hs ∧ Cert true (tat C) hs p n ∧ Cert false (tat C) hs p m ∧ ∀ H', Xp pp H H' → PotAt H' pp (k + 2) → Q (.bl true) H'
theorem ok_law_more_right (F : Fn K mg "_law_more_right" s_law_more_right p_law_more_right) (T : Tx0 K mg) (c_law_take : Ca P w K mg base "_law_take" 1 p_law_take (spTake K)) (c_law_ends : Ca P w K mg base "_law_ends" 8 p_law_ends (spEnds K)) (c_given_away : Ca P w K mg base "given_away" 8 p_given_away (spAway K)) :
    Ca P w K mg base "_law_more_right" 9 p_law_more_right (spMore K) := by
  refine F.ca sc_law_more_right (fun vs H Q E h => by obtain ⟨pp, k, C, hs, p, n, m, wh, c, h, plv, ev, rfl, _⟩ := h; rfl) (fun f cdv A outer s H vs Q E hr h => ?_)
  obtain ⟨pp, k, C, hs, p, n, m, wh, c, hv, plv, ev, rfl, pot, hk, hc, hh, hpv, hev, hC, hH, hp, ca, cb, kk⟩ := h
  have nd := sc_law_more_right.nd
  have l1 := hC.l1
  have l6 := hC.l6
  have w1 := hC.w1
  have w6 := hC.w6
  have hlen := hH.len hC
  refine ⟨_, (pss_cons (ps_set (i := 6) nd rfl (Or.inl rfl) (pe_lst pa_nil))
    (pss_cons (ps_for PassesOwn.never rfl (pi_range1 (by rfl) T.range_ (pa_cons (pe_callB (ck_lenK K rfl) (by rfl) T.len_ PySem.boot_len (pa_cons (pv 1) pa_nil)) pa_nil)) (pg_name (i := 7) nd rfl (Or.inr rfl)) (pss_one (ps_expr (pe_bmK K rfl PySem.F.plainAttrs_list PySem.F.slot_list_extend PySem.F.type_list_extend mt_extend (pv 6) (pa_cons (pe_lc (own := [("_law_column", 14)]) rfl nd (pi_range1 (by rfl) T.range_ (pa_cons (pe_callB (ck_lenK K rfl) (by rfl) T.len_ PySem.boot_len (pa_cons (pe_ix (ix_tupK K rfl) (pv 1) pe_int (fun _ _ => rfl)) pa_nil)) pa_nil)) (blkOk_by (N := n_law_more_right) (sc := defScope s_law_more_right) (by decide +kernel)) (fun _ _ _ _ _ => (pg_name (i := 14) nd rfl (Or.inl rfl))) (fun _ _ _ _ _ => (pts_one (pt_cmpR (op_notInTDK K rfl hr.units) (pe_tup (pa_cons (pv 7) (pa_cons (pv 14) pa_nil))) (pv 2) rfl))) (fun _ _ _ _ _ => (pe_tup (pa_cons (pv 7) (pa_cons (pv 14) pa_nil))))) pa_nil)))))
    (pss_cons (ps_if (pt_cmpR (op_neDK K rfl hr.units) (pv 6) (pe_lst pa_nil) (nomark _)) (pss_cons (ps_set (i := 10) nd rfl (Or.inl rfl) (pe_callTy (ck_tupK K rfl) (by rfl) T.tuple_ (by decide +kernel) (pa_cons (pe_callB (ck_sortTK K rfl) (by rfl) T.sorted_ (by decide +kernel) (pa_cons (pe_op (op_catAK K rfl) (pv 2) (pe_tup (pa_cons (pe_ix (ix_listK K rfl) (pv 6) (pe_ca c_law_take hr (by decide) (by rfl) (pa_cons (pv 0) (pa_cons (pe_callB (ck_lenK K rfl) (by rfl) T.len_ PySem.boot_len (pa_cons (pv 6) pa_nil)) pa_nil))) (fun _ _ => rfl)) pa_nil))) pa_nil)) pa_nil)))
    (pss_cons (ps_asg (pe_ca c_law_ends hr (by decide) (by rfl) (pa_cons (pv 1) (pa_cons (pv 10) (pa_cons (pv 3) pa_nil)))) (pg_tupK K rfl (n := 2) rfl (pgs_cons (pg_name (i := 11) nd rfl (Or.inl rfl)) (pgs_cons (pg_name (i := 12) nd rfl (Or.inl rfl)) pgs_nil))))
    (pss_one (ps_if (PW.pt (pw_or (pt_cmpR op_gt (pv 11) (pe_ix (ix_tupK K rfl) (pv 4) pe_int (fun _ _ => rfl)) (nomark _)) (pw_or1 (pt_cmpR op_lt (pv 12) (pe_ix (ix_tupK K rfl) (pv 4) pe_int (fun _ _ => rfl)) (nomark _))))) (pss_one (ps_ret pe_bl)) pss_nil)))) pss_nil)
    (pss_cons (ps_set (i := 8) nd rfl (Or.inr rfl) (pe_op op_add pe_int (pe_ca c_law_take hr (by decide) (by rfl) (pa_cons (pv 0) (pa_cons pe_int pa_nil)))))
    (pss_cons (ps_if (pt_cmpR op_gt (pe_op op_mul (pe_callB (ck_maxK K rfl rfl) (by rfl) T.max_ (by decide +kernel) (pa_cons (pe_lc (own := [("_law_line", 13)]) rfl nd (pi_tupK K rfl (pv 1)) (blkOk_by (N := n_law_more_right) (sc := defScope s_law_more_right) (by decide +kernel)) (fun _ _ _ _ _ => (pg_name (i := 13) nd rfl (Or.inl rfl))) (fun _ _ _ _ _ => pts_nil) (fun _ _ _ _ _ => (pe_callB (ck_maxTK K rfl rfl) (by rfl) T.max_ (by decide +kernel) (pa_cons (pv 13) pa_nil)))) pa_nil)) (pv 8)) (pe_op op_powB pe_int pe_int) (nomark _)) (pss_one (ps_ret pe_bl)) pss_nil)
    (pss_cons (ps_set (i := 9) nd rfl (Or.inl rfl) (pe_callTy (ck_tupK K rfl) (by rfl) T.tuple_ (by decide +kernel) (pa_cons (pe_lc (own := [("_law_line", 13)]) rfl nd (pi_tupK K rfl (pv 1)) (blkOk_by (N := n_law_more_right) (sc := defScope s_law_more_right) (by decide +kernel)) (fun _ _ _ _ _ => (pg_name (i := 13) nd rfl (Or.inl rfl))) (fun _ _ _ _ _ => pts_nil) (fun _ _ _ _ _ => (pe_callTy (ck_tupK K rfl) (by rfl) T.tuple_ (by decide +kernel) (pa_cons (pe_lc (own := [("_law_one", 15)]) rfl nd (pi_tupK K rfl (pv 13)) (by show BlkOk n_law_more_right (relS _ (defScope s_law_more_right)) _ _; exact blkOk_by (by decide +kernel)) (fun _ _ _ _ _ => (pg_name (i := 15) nd rfl (Or.inl rfl))) (fun _ _ _ _ _ => pts_nil) (fun _ _ _ _ _ => (pe_op op_mul (pv 15) (pv 8)))) pa_nil)))) pa_nil)))
    (pss_cons (ps_if (PW.pt (pw_and (pt_val (pv 5)) (pw_and1 (pt_cmpR (op_neDK K rfl hr.units) (pe_ca c_given_away hr (by decide) (by rfl) (pa_cons (pv 9) (pa_cons (pv 2) pa_nil))) (pe_ca c_given_away hr (by decide) (by rfl) (pa_cons (pv 1) (pa_cons (pv 2) pa_nil))) (nomark _))))) (pss_one (ps_ret pe_bl)) pss_nil)
    (pss_one (ps_ret (pe_cmpR (op_eqDK K rfl hr.units) (pe_ca c_law_ends hr (by decide) (by rfl) (pa_cons (pv 9) (pa_cons (pv 2) (pa_cons (pv 3) pa_nil)))) (pe_tup (pa_cons (pe_op op_mul (pe_ix (ix_tupK K rfl) (pv 4) pe_int (fun _ _ => rfl)) (pv 8)) (pa_cons (pe_op op_mul (pe_ix (ix_tupK K rfl) (pv 4) pe_int (fun _ _ => rfl)) (pv 8)) pa_nil))) (nomark _))))))))))), ?_⟩
  have S : Sl K H _ [.v (.ref pp), .d (dTab C), .d (dHid hs), .d (dPl p), .d (dEnds n m), .d (.bool wh), .no, .no, .no, .no, .no, .no, .no, .no, .no, .no] := sl_mix (.v (.d hc (.d hh (.d hpv (.d hev (.d (.bl wh) .nil)))))) n_law_more_right
  refine s_asgL (H0 := fun _ => none) (ds := []) (l_lst a_nil (by simp)) exN S fun σ1 H1 fq fqs hfq e1 hfq1 hfqs S1 => ?_
  have hfqp : fq ≠ pp := pot.ne hfq
  refine s_for (H0 := fun _ => none) (j_range (n := C.length) (row1 (e_var rfl)) (by omega)) exN S1 fun H2 e2 S2 => ?_
  refine ⟨fun i σ' H' => Ex H H' ∧ Tx K H2 H' ∧ ∃ xs ps, H' fq = some (.lst xs) ∧ DqAll K H' xs (ps.map dPl) ∧ ps.length ≤ 6 * i ∧ (∀ q ∈ ps, q.1 < C.length ∧ q.2 < wd C ∧ q ∉ hs) ∧
    Sl K H' σ' [.v (.ref pp), .d (dTab C), .d (dHid hs), .d (dPl p), .d (dEnds n m), .d (.bool wh), .v (.ref fq), .no, .no, .no, .no, .no, .no, .no, .no, .no], ⟨e1.trans e2, Tx.refl _, fqs, [], e2 _ _ hfq1, dps_ex e2 _ _ hfqs, by simp, (fun q h => absurd h (by simp)), S2⟩, fun i σ' H' h => h.2.1, ?_, ?_⟩
  · rintro i d v σ' H5 H6 hd ⟨ex, tx, xs, ps, hl, hps, hplen, hpin, S'⟩ e6 hv6
    obtain ⟨hi, rfl⟩ := dNs_at hd
    refine tg_name v σ' H6 _ hv6 (S'.ex e6) fun σ7 S7 _ => ?_
    have hxl := dps_len hps
    rw [List.length_map] at hxl
    have hfl := List.length_filter_le (fun j => !decide (((i, j) : Pl) ∈ hs)) (List.range (wd C))
    rw [List.length_range] at hfl
    refine s_extL (H0 := fun _ => none) (ds := (((List.range (wd C)).filter fun j => !decide (((i, j) : Pl) ∈ hs)).map fun j => ((i, j) : Pl)).map dPl) ((l_lc (List.range (wd C)) (fun j => .int (j : Nat)) (fun j => dPl (i, j)) (fun j => !decide (((i, j) : Pl) ∈ hs)) _ (i_range (row0 hC (e_var rfl)) (by omega)) (by rw [List.length_range]; omega) (js := [14]) (by simp) (fun _ _ => tg_name)
      (fun j _ => b_test ((e_inTD (neg := true) (ds := hs.map dPl) (d := dPl (i, j)) (e_tup (a_cons (e_var rfl) (a_cons (e_var rfl) a_nil)) (by simp)) (e_var rfl) (shaped_pl _) (shaped_hid hs)).to (by rw [any_pl]; rfl))) (fun j _ _ => e_tup (a_cons (e_var rfl) (a_cons (e_var rfl) a_nil)) (by simp)) (fun j => tuO_pl _)).to (by rw [List.map_map]; rfl)) exN S7 rfl (e6 _ _ hl) (by rw [List.length_map, List.length_map]; omega) fun H8 ys e8 hys S8 => ?_
    have hl8 := (e6.trans e8) _ _ hl
    have tx2 : Tx K H8 (upd H8 fq (.lst (xs ++ ys))) := Tx.upd (noT_lst hl8)
    refine ⟨Ex.mut (ex.trans (e6.trans e8)) hfq, tx.trans ((Tx.of (e6.trans e8)).trans tx2), xs ++ ys, ps ++ ((List.range (wd C)).filter fun j => !decide (((i, j) : Pl) ∈ hs)).map (fun j => ((i, j) : Pl)), upd_same, ?_, ?_, fun q hq => ?_, (S8.clr 7).tx (by simp [En.ok, tuO_tab, tuO_hid, tuO_pl, tuO, dEnds, tuOs]) tx2⟩
    · rw [List.map_append]
      exact dps_app (dps_tx ((Tx.of (e6.trans e8)).trans tx2) _ _ (tuOs_map _ tuO_pl _) hps) (dps_tx tx2 _ _ (tuOs_map _ tuO_pl _) hys)
    · rw [List.length_append, List.length_map]
      omega
    · rcases List.mem_append.mp hq with h | h
      · exact hpin q h
      · obtain ⟨j, hj, rfl⟩ := List.mem_map.mp h
        obtain ⟨h1, h2⟩ := List.mem_filter.mp hj
        exact ⟨hi, List.mem_range.mp h1, by simpa using h2⟩
  rintro σ3 H3 ⟨ex3, tx3, xs, ps, hl3, hps3, hplen, hpin, S3⟩
  rw [dNs_len] at hplen
  have pot3 := pot.ex' ex3
  have ok3 : ([.v (.ref pp), .d (dTab C), .d (dHid hs), .d (dPl p), .d (dEnds n m), .d (.bool wh), .v (.ref fq), .no, .no, .no, .no, .no, .no, .no, .no, .no] : Env1).all En.ok = true := by simp [En.ok, tuO_tab, tuO_hid, tuO_pl, tuO, dEnds, tuOs]
  refine s_via (fun σ4 H4 => Xp pp H H4 ∧ PotAt H4 pp (k + 1) ∧ Sl K H4 σ4 [.v (.ref pp), .d (dTab C), .d (dHid hs), .d (dPl p), .d (dEnds n m), .d (.bool wh), .no, .no, .no, .no, .no, .no, .no, .no, .no, .no]) ?_ ?_
  · rintro σ4 H4 ⟨xp4, pot4, S4⟩
    refine s_asgMi (pr := fun b => 1 ≤ b ∧ b ≤ 5) (mv_rI0 (by simp [En.ok, tuO_tab, tuO_hid, tuO_pl, tuO, dEnds, tuOs]) (mv_int e_int) (mv_take (n := 0) rfl e_int (by decide) (by decide) (by omega)) fun i j h1 h2 => ⟨_, rfl, by omega, by omega⟩) (by simp [En.ok, tuO_tab, tuO_hid, tuO_pl, tuO, dEnds, tuOs]) S4 pot4 fun σ5 H5 b x5 pot5 hb S5 => ?_
    have xp5 := xp4.trans x5
    have hrl : ∀ r ∈ C, 0 < r.length := fun r hr => by
      have := hC.rect r hr
      omega
    obtain ⟨⟨r0, hr0, hm0⟩, hmx⟩ := mx_tab (show 0 < C.length by omega) hrl
    have mnn := hC.nn r0 hr0 _ hm0
    have mtop := hC.top r0 hr0 _ hm0
    have cm : ∀ x : Int, CMul x b := fun x => .inr (by constructor <;> omega)
    refine s_if (H0 := fun _ => none) (b_test (e_gt (e_mul (e_maxL (r := C.map mx) ((l_lcA C dRow (fun r => .int (mx r)) _ (i_tup (e_var rfl)) (by omega) (js := [13]) (by simp) (fun _ _ => tg_name) (fun r hr => e_maxT (e_var rfl) (hrl r hr)) (fun _ => rfl)).eh.to (by rw [List.map_map]; rfl)) (by rw [List.length_map]; omega)) (e_var rfl) (cm _)) e_nine)) exN S5 (fun bb H6 e6 S6 => ?_) (fun bb H6 e6 S6 => ?_)
    · refine s_ret (H0 := fun _ => none) e_bl exN S6 fun v H7 e7 d7 => ?_
      cases dp_bl d7
      exact kk H7 (xp5.trans (Xp.of (e6.trans e7))) ((pot5.ex' e6).ex' e7)
    · have hle : mx (C.map mx) * b ≤ 1000000000 := by
        have := of_decide_eq_false bb
        omega
      have hle2 : ∀ r ∈ C, ∀ x ∈ r, x * b ≤ 1000000000 := fun r hr x hx => Int.le_trans (Int.mul_le_mul_of_nonneg_right (hmx r hr x hx) (by omega)) hle
      have hCt := times_vc hC (show 0 ≤ b by omega) hle2
      have hHt := times_vh (b := b) hH
      refine s_asg (H0 := fun _ => none) (d := dTab (timesT C b)) ((e_tupOf (l_lcA C dRow (fun r => dRow (r.map fun x => x * b)) _ (i_tup (e_var rfl)) (by omega) (js := [13]) (by simp) (fun _ _ => tg_name)
        (fun r hr => (e_tupOf (l_lcA r .int (fun x => .int (x * b)) _ (i_tup (e_var rfl)) (by have := hC.rect r hr; omega) (js := [15]) (by simp) (fun _ _ => tg_name) (fun x _ => e_mul (e_var rfl) (e_var rfl) (cm _)) (fun _ => rfl)).eh).to (by unfold dRow; rw [List.map_map]; rfl)) (fun r => tuO_row _)).eh).to (by unfold dTab timesT; rw [List.map_map]; rfl)) exN S6 fun σ7 H7 e7 S7 => ?_
      refine s_ifF (H0 := fun _ => none) ((b_and (b_B (e_var rfl)) fun _ => b_test (e_neD (e_call (d := dHid (awayL (timesT C b) hs)) (timesT C b, hs) (a_cons (e_var rfl) (a_cons (e_var rfl) a_nil)) ⟨hCt, hHt⟩ fun _ p => p) (e_call (d := dHid (awayL C hs)) (C, hs) (a_cons (e_var rfl) (a_cons (e_var rfl) a_nil)) ⟨hC, hH⟩ fun _ p => p) (shaped_hid _) (shaped_hid _))).to (by rw [times_away hC hH hb.1, eqv_same (shaped_hid _)]; simp)) exN S7 fun H8 e8 S8 => ?_
      refine s_ret (H0 := fun _ => none) ((e_eqD (e_ends (C := timesT C b) (hs := hs) (p := p) (n := n * b) (m := m * b) (a_cons (e_var rfl) (a_cons (e_var rfl) (a_cons (e_var rfl) a_nil))) hCt hHt hp (times_cert (by omega) ca) (times_cert (by omega) cb)) (e_tup (ds := [.int (n * b), .int (m * b)]) (a_cons (e_mul (e_ixT (e_var rfl) e_int at0) (e_var rfl) (cm _)) (a_cons (e_mul (e_ixT (e_var rfl) e_int at1) (e_var rfl) (cm _)) a_nil)) (by simp)) (shaped_ends _ _) (shaped_ends _ _)).to (e := .bool true) (by
        have := eqv_same (shaped_ends (n * b) (m * b))
        exact congrArg PyData.bool this)) exN S8 fun v H9 e9 d9 => ?_
      cases dp_bl d9
      have e69 := (e6.trans e7).trans (e8.trans e9)
      exact kk H9 (xp5.trans (Xp.of e69)) (pot5.ex' e69)
  · intro D' nx
    have dfq : Dq K H3 (.ref fq) (.list (ps.map dPl)) := .lst hl3 hps3
    refine s_ifL (H0 := H3) (b_test ((e_neD (e_varB rfl dfq) (l_lst a_nil (by simp)).eh (shaped_lpl ps) rfl).to (by rw [eqv_emptyL]))) (Ex.refl _) S3 (fun b H4 e4 S4 => ?_) (fun b H4 e4 S4 => ?_)
    · have hps0 : 0 < ps.length := by
        cases ps with
        | nil => simp at b
        | cons _ _ => simp
      have pot4 := pot3.ex' e4
      have hl4 := e4 _ _ hl3
      have hps4 := dps_ex e4 _ _ hps3
      obtain ⟨v2, hv2, hd2⟩ := S4.dat (i := 2) rfl
      -- the one taken
      refine ⟨v2, hv2, _, S4.val rfl, ?_⟩
      have lenE : Eh K H4 [.v (.ref pp), .d (dTab C), .d (dHid hs), .d (dPl p), .d (dEnds n m), .d (.bool wh), .v (.ref fq), .no, .no, .no, .no, .no, .no, .no, .no, .no] (tCB (rLenS K) (tCons (tVar 6) tNil)) (.int (ps.length : Nat)) := (e_lenL (e_varB rfl (Dq.lst hl4 hps4))).to (by rw [List.length_map])
      refine ⟨_, S4.val rfl, lenE _ H4 (Ex.refl _) S4 _ fun u H5 e5 d5 => ⟨pp, (ps.length : Nat), k, by rw [dp_int d5]; rfl, pot4.ex' e5, by omega, by omega, by omega, fun i H6 x6 pot6 hi0 hi1 => ?_⟩⟩
      obtain ⟨iN, rfl⟩ : ∃ iN : Nat, i = (iN : Int) := ⟨i.toNat, by omega⟩
      have hiN : iN < ps.length := by omega
      have x46 : Xp pp H4 H6 := (Xp.of e5).trans x6
      have tx46 : Tx K H4 H6 := x46.tx pot4
      have hl6 : H6 fq = some (.lst xs) := x46 _ _ hfqp hl4
      have hps6 := dps_tx tx46 _ _ (tuOs_map _ tuO_pl ps) hps4
      have S6 := S4.tx ok3 tx46
      have hq := hpin ps[iN] (List.getElem_mem hiN)
      have ndq : (hs ++ [ps[iN]]).Nodup := by
        rw [List.nodup_append]
        refine ⟨hH.nd, by simp, fun a ha b hb => ?_⟩
        rw [List.mem_singleton.mp hb]
        exact fun z => hq.2.2 (z ▸ ha)
      refine (p_sortT (H0 := H6) (Γ := [.v (.ref pp), .d (dTab C), .d (dHid hs), .d (dPl p), .d (dEnds n m), .d (.bool wh), .v (.ref fq), .no, .no, .no, .no, .no, .no, .no, .no, .no]) (ps := hs ++ [ps[iN]]) ((e_catT (e_con (dp_tx tx46 _ _ (tuO_hid hs) hd2)) (e_tup (ds := [dPl ps[iN]]) (a_cons (e_ixL (e_con (Dq.lst hl6 hps6)) (e_con (.int _)) (atI_nat (by rw [List.getElem?_map, List.getElem?_eq_getElem hiN]; rfl))) a_nil) (by simp)) (by rw [List.length_map]; simp; omega)).to (by unfold dHid; rw [List.map_append]; rfl)) ndq) σ3 H6 (Ex.refl _) S6 _ fun wv dw H7 e7 d7 hw => ?_
      obtain ⟨qs, rfl, pm, rise⟩ := hw
      have S7 : Sl K H7 _ [.v (.ref pp), .d (dTab C), .d (dHid hs), .d (dPl p), .d (dEnds n m), .d (.bool wh), .v (.ref fq), .no, .no, .no, .d (dHid qs), .no, .no, .no, .no, .no] := (S6.ex e7).setD (i := 10) d7
      have pm2 : qs.Perm (ps[iN] :: hs) := pm.trans List.perm_append_comm
      have hHq : VH C qs := ⟨fun h hh => by
        rcases List.mem_cons.mp (pm2.mem_iff.mp hh) with z | z
        · rw [z]; exact ⟨hq.1, hq.2.1⟩
        · exact hH.inr h z, rise⟩
      have hpq : p ∈ qs := pm2.mem_iff.mpr (List.mem_cons_of_mem _ hp)
      refine s_asgEnds (R := fun n m => Cert true (tat C) qs p n ∧ Cert false (tat C) qs p m) (H0 := fun _ => none) (p_ends (a_cons (e_var rfl) (a_cons (e_var rfl) (a_cons (e_var rfl) a_nil))) hC hHq hpq) exN S7 fun σ8 H8 n' m' e8 hR S8 => ?_
      have more1 := (Cert.more pm2 hHq.nd hp (hC.tat_nn _) hq.2.2 ca hR.1).1 rfl
      have more2 := (Cert.more pm2 hHq.nd hp (hC.tat_nn _) hq.2.2 cb hR.2).2 rfl
      refine s_ifLF (H0 := fun _ => none) ((b_or (b_test (e_gt (e_var rfl) (e_ixT (e_var rfl) e_int at0))) fun _ => b_test (e_lt (e_var rfl) (e_ixT (e_var rfl) e_int at1))).to (by rw [decide_eq_false (by omega), decide_eq_false (by omega)]; rfl)) exN S8 fun H9 e9 S9 => nx _ _ ⟨(Xp.of (ex3.trans e4)).trans (x46.trans (Xp.of ((e7.trans e8).trans e9))), pot6.ex' ((e7.trans e8).trans e9), (((S9.clr 6).clr 10).clr 11).clr 12⟩
    · exact nx _ _ ⟨Xp.of (ex3.trans e4), (pot3.ex' e4).mono (by omega), S4.clr 6⟩
end
end Ak
set_option Elab.async false
set_option linter.all false
set_option maxRecDepth 100000
set_option maxHeartbeats 8000000
/-! AkG7: the law. -/
namespace Ak
open PySem PySem.Spec PyProof.Rows L2 Evl
theorem Feas.same {C T S : Tab} {hs : List Pl} (F : Feas C hs T) (G : Feas C hs S) : Feas T hs S := ⟨G.shape.trans F.shape.symm, G.nn, fun q hq => (G.off q hq).trans (F.off q hq).symm, G.mar.trans F.mar.symm⟩
theorem Good.cong {less : Bool} {C T S : Tab} {hs : List Pl} {p : Pl} {n : Int} {a b : List Int} (F : Feas C hs T) (g : Good less C hs p n S a b) : Good less T hs p n S a b :=
  ⟨F.same g.feas, g.val, g.la.trans (len_shp F.shape).symm, g.lb.trans (wd_shp F.shape).symm, g.sa, g.sb, ⟨g.pap.lt, g.pap.gt, (F.mar _ _).trans g.pap.sum⟩⟩
theorem feas_vc {C T : Tab} {hs : List Pl} (hC : VC C) (F : Feas C hs T) (top : ∀ r ∈ T, ∀ x ∈ r, x ≤ 1000000000) : VC T := by
  have l := len_shp F.shape
  have hw := wd_shp F.shape
  refine ⟨by rw [l]; exact hC.l1, by rw [l]; exact hC.l6, by rw [hw]; exact hC.w1, by rw [hw]; exact hC.w6, fun r hr => ?_, fun r hr x hx => ?_, top⟩
  · obtain ⟨i, hi, e⟩ := List.mem_iff_getElem.mp hr
    have h1 : (T.getD i []).length = (C.getD i []).length := by rw [getD_map_len, getD_map_len, F.shape]
    have h2 : T.getD i [] = r := by rw [List.getD_eq_getElem?_getD, List.getElem?_eq_getElem hi, e]; rfl
    rw [h2] at h1
    rw [h1, hw]
    exact hC.row (by omega)
  · obtain ⟨i, hi, e⟩ := List.mem_iff_getElem.mp hr
    obtain ⟨j, hj, e2⟩ := List.mem_iff_getElem.mp hx
    have h2 : T.getD i [] = r := by rw [List.getD_eq_getElem?_getD, List.getElem?_eq_getElem hi, e]; rfl
    have h3 := F.nn (i, j)
    unfold tat at h3
    have h4 : (T.getD i []).getD j 0 = x := by
      rw [h2, List.getD_eq_getElem?_getD, List.getElem?_eq_getElem hj, e2]
      rfl
    have h5 : 0 ≤ (T.getD i []).getD j 0 := h3
    rw [h4] at h5
    exact h5
theorem feas_vh {C T : Tab} {hs : List Pl} (hH : VH C hs) (F : Feas C hs T) : VH T hs := ⟨fun h hh => by rw [len_shp F.shape, wd_shp F.shape]; exact hH.inr h hh, hH.rise⟩
def cutT (C : Tab) (c : Nat) : Tab := (C.take c).map fun r => r.take c
theorem cut_vc {C : Tab} {c : Nat} (hC : VC C) (h : 1 ≤ c) : VC (cutT C c) := by
  have l : (cutT C c).length = min c C.length := by simp [cutT]
  have l1 := hC.l1
  have l6 := hC.l6
  have w1 := hC.w1
  have w6 := hC.w6
  have hw : wd (cutT C c) = min c (wd C) := by
    unfold wd cutT
    rw [List.getD_eq_getElem?_getD, List.getElem?_map, List.getElem?_take, if_pos (by omega), List.getD_eq_getElem?_getD, List.getElem?_eq_getElem (show 0 < C.length by omega)]
    simp
  have mem : ∀ r ∈ cutT C c, ∃ r' ∈ C, r = r'.take c := fun r hr => by
    obtain ⟨r', h1, rfl⟩ := List.mem_map.mp hr
    exact ⟨r', List.mem_of_mem_take h1, rfl⟩
  refine ⟨by omega, by omega, by omega, by omega, fun r hr => ?_, fun r hr x hx => ?_, fun r hr x hx => ?_⟩
  · obtain ⟨r', h1, rfl⟩ := mem r hr
    rw [List.length_take, hw, hC.rect r' h1]
  · obtain ⟨r', h1, rfl⟩ := mem r hr
    exact hC.nn r' h1 x (List.mem_of_mem_take hx)
  · obtain ⟨r', h1, rfl⟩ := mem r hr
    exact hC.top r' h1 x (List.mem_of_mem_take hx)
theorem cut_to (ds : List PyData) (n : Nat) : cutD ds none (some ((n : Nat) : Int)) = ds.take n := by
  unfold cutD
  rw [HT.sIx_nat, HT.sIx_none, Nat.sub_zero, List.drop_zero]
  by_cases h : n ≤ ds.length
  · rw [Nat.min_eq_left h]
  · rw [Nat.min_eq_right (by omega), List.take_length, List.take_of_length_le (by omega)]
theorem turns_eq (wh : Bool) (hs : List Pl) : PyData.int ((if wh = true then 1 else 2) * if (!(dHid hs).eqv (PyData.tuple [])) = true then 1 else 0) = PyData.int (((if wh = true then 1 else 2) * (if hs = [] then 0 else 1) : Nat) : Int) := by
  have h : (dHid hs).eqv (PyData.tuple []) = decide (hs.map dPl = []) := eqv_emptyT _
  rw [h]
  cases hs with
  | nil => cases wh <;> rfl
  | cons a hs => cases wh <;> simp
theorem turns_le (wh : Bool) (hs : List Pl) : (if wh = true then 1 else 2) * (if hs = [] then 0 else 1) ≤ 2 := by
  cases wh
  · by_cases h : hs = []
    · rw [if_pos h]; decide
    · rw [if_neg h]; decide
  · by_cases h : hs = []
    · rw [if_pos h]; decide
    · rw [if_neg h]; decide
section
variable {P : Program} {w : World} {K : PySem.W.Frag} {mg : Str → Option Value} {base : Heap} {H0 H H' H1 : Hp} {Γ : Env1} {ta tb te : TE} {d : PyData} {pp q : Addr} {k k1 k2 : Nat} {σ : Sg}
theorem e_min2 {i j : Int} (ha : Eh K H0 Γ ta (.int i)) (hb : Eh K H0 Γ tb (.int j)) : Eh K H0 Γ (tCB (fun xs H Q => ∃ i j, xs = [V.int i, .int j] ∧ Q (.int (if j < i then j else i)) H) (tCons ta (tCons tb tNil))) (.int (if j < i then j else i)) := fun σ H e0 s Q q =>
  bin2 ha hb e0 s fun v w H2 e2 h1 h2 => ⟨i, j, by rw [dp_int h1, dp_int h2], q _ H2 e2 (.int _)⟩
theorem e_max2 {i j : Int} (ha : Eh K H0 Γ ta (.int i)) (hb : Eh K H0 Γ tb (.int j)) : Eh K H0 Γ (tCB (fun xs H Q => ∃ i j, xs = [V.int i, .int j] ∧ Q (.int (if j > i then j else i)) H) (tCons ta (tCons tb tNil))) (.int (if j > i then j else i)) := fun σ H e0 s Q q =>
  bin2 ha hb e0 s fun v w H2 e2 h1 h2 => ⟨i, j, by rw [dp_int h1, dp_int h2], q _ H2 e2 (.int _)⟩
/-- x = e, told by what is known of its value -/
theorem s_asgV {i : Nat} {tz : TS} {D : Ends} {R : V → Hp → Prop} (h : ∀ Q : VK, (∀ v H1, R v H1 → Q v H1) → te σ H Q) (kk : ∀ v H1, R v H1 → tz D (σ.set i (some v)) H1) : tSeq (tAsg te (gName i)) tz D σ H := h _ fun v H1 r => kk v H1 r
/-- a test that takes from the pot, and is false -/
theorem s_ifQ {tt : TT} {tu tz : TS} {D : Ends} {R : Hp → Prop} (h : ∀ Q : Bool → Hp → Prop, (∀ H1, R H1 → Q false H1) → tt σ H Q) (kk : ∀ H1, R H1 → tz D σ H1) : tSeq (tIfS tt tu tNext) tz D σ H :=
  h _ fun H1 r => by
    show tz D σ H1
    exact kk H1 r
theorem s_ifQL {tt : TT} {tu : TS} {D : Ends} {R : Hp → Prop} (h : ∀ Q : Bool → Hp → Prop, (∀ H1, R H1 → Q false H1) → tt σ H Q) (kk : ∀ H1, R H1 → D.nx σ H1) : tIfS tt tu tNext D σ H :=
  h _ fun H1 r => by
    show D.nx σ H1
    exact kk H1 r
def spLaw (K : PySem.W.Frag) : Sp := fun vs H Q _ => ∃ (a : Addr) (ns : List Int), vs = [.ref a] ∧ SqL K H a (ns.map V.int) ∧ ns.length ≤ 63 ∧ ∀ H', Q (.bl true) H'
theorem ok_law {f : Addr} {fd : FuncData} (F : Fun K "law" "law" s_law f fd) (T : Tx0 K mg) (c_law_pot : Ca P w K mg base "_law_pot" 1 p_law_pot (spPot K)) (c_law_take : Ca P w K mg base "_law_take" 1 p_law_take (spTake K)) (c_law_counts : Ca P w K mg base "_law_counts" 2 p_law_counts (spLCounts K)) (c_law_hidden : Ca P w K mg base "_law_hidden" 2 p_law_hidden (spLHidden K))
    (c_bounds_at : Ca P w K mg base "bounds_at" 7 p_bounds_at (spBounds K)) (c_shows_bounds : Ca P w K mg base "shows_bounds" 7 p_shows_bounds (spShows K)) (c_given_away : Ca P w K mg base "given_away" 8 p_given_away (spAway K)) (c_law_ends : Ca P w K mg base "_law_ends" 8 p_law_ends (spEnds K))
    (c_law_others : Ca P w K mg base "_law_others" 2 p_law_others (spOthers K)) (c_law_turned_right : Ca P w K mg base "_law_turned_right" 9 p_law_turned_right (spTurn K)) (c_law_more_right : Ca P w K mg base "_law_more_right" 9 p_law_more_right (spMore K)) :
    FnOk P w K mg base CX0 10 f fd p_law (spLaw K) := by
  refine F.ok (k := 9) sc_law (fun vs H Q E h => by obtain ⟨a, ns, rfl, _⟩ := h; rfl) (fun cdv A outer s H vs Q E hr h => ?_)
  obtain ⟨sa, ns, rfl, hsq, hns, kk⟩ := h
  have nd := sc_law.nd
  refine ⟨_, (pss_cons (ps_for PassesOwn.never rfl (pi_range1 (by rfl) T.range_ (pa_cons (pe_callB (call_max2 rfl) (by rfl) T.max_ (by decide +kernel) (pa_cons pe_int (pa_cons (pe_callB (call_min2 rfl) (by rfl) T.min_ (by decide +kernel) (pa_cons pe_int (pa_cons (pe_callB (ck_lenK K rfl) (by rfl) T.len_ PySem.boot_len (pa_cons (pv 0) pa_nil)) pa_nil))) pa_nil))) pa_nil)) (pg_name (i := 1) nd rfl (Or.inl rfl)) (pss_cons (ps_set (i := 2) nd rfl (Or.inl rfl) (pe_ca c_law_pot hr (by decide) (by rfl) (pa_cons (pv 0) (pa_cons (pv 1) pa_nil))))
    (pss_cons (ps_set (i := 3) nd rfl (Or.inl rfl) (pe_cmpR op_lt (pv 1) pe_int (nomark _)))
    (pss_cons (ps_set (i := 4) nd rfl (Or.inr rfl) (pe_ix (ix_listK K rfl) (pe_lst (pa_cons pe_int (pa_cons pe_int pa_nil))) (pe_callTy ck_int (by rfl) T.int_ (by decide +kernel) (pa_cons (pv 3) pa_nil)) (fun _ _ => rfl)))
    (pss_cons (ps_set (i := 5) nd rfl (Or.inl rfl) (pe_callTy (ck_tupK K rfl) (by rfl) T.tuple_ (by decide +kernel) (pa_cons (pe_lc (own := [("_law_row", 13)]) rfl nd (pi_tupK K rfl (pe_slice (sl_tupK K rfl) (pe_ca c_law_counts hr (by decide) (by rfl) (pa_cons (pv 2) pa_nil)) po_none (po_some (pv 4)))) (blkOk_by (N := n_law) (sc := defScope s_law) (by decide +kernel)) (fun _ _ _ _ _ => (pg_name (i := 13) nd rfl (Or.inl rfl))) (fun _ _ _ _ _ => pts_nil) (fun _ _ _ _ _ => (pe_slice (sl_tupK K rfl) (pv 13) po_none (po_some (pv 4))))) pa_nil)))
    (pss_cons (ps_set (i := 6) nd rfl (Or.inl rfl) (pe_ca c_law_hidden hr (by decide) (by rfl) (pa_cons (pv 2) (pa_cons (pv 5) pa_nil))))
    (pss_one (ps_for PassesOwn.never rfl (pi_range1 (by rfl) T.range_ (pa_cons (pe_op op_mul (pe_ix (ix_listK K rfl) (pe_lst (pa_cons pe_int (pa_cons pe_int pa_nil))) (pe_callTy ck_int (by rfl) T.int_ (by decide +kernel) (pa_cons (pv 3) pa_nil)) (fun _ _ => rfl)) (pe_callTy ck_int (by rfl) T.int_ (by decide +kernel) (pa_cons (pe_cmpR (op_neDK K rfl hr.units) (pv 6) (pe_tup pa_nil) (nomark _)) pa_nil))) pa_nil)) (pg_name (i := 7) nd rfl (Or.inl rfl)) (pss_cons (ps_set (i := 8) nd rfl (Or.inl rfl) (pe_ix (ix_tupK K rfl) (pv 6) (pe_ca c_law_take hr (by decide) (by rfl) (pa_cons (pv 2) (pa_cons (pe_callB (ck_lenK K rfl) (by rfl) T.len_ PySem.boot_len (pa_cons (pv 6) pa_nil)) pa_nil))) (fun _ _ => rfl)))
    (pss_cons (ps_set (i := 9) nd rfl (Or.inl rfl) (pe_ca c_bounds_at hr (by decide) (by rfl) (pa_cons (pv 5) (pa_cons (pv 6) (pa_cons (pv 8) pa_nil)))))
    (pss_cons (ps_set (i := 10) nd rfl (Or.inl rfl) (pe_tup (pa_cons (pe_ix (ix_tupK K rfl) (pv 9) pe_int (fun _ _ => rfl)) (pa_cons (pe_ix (ix_tupK K rfl) (pv 9) pe_int (fun _ _ => rfl)) pa_nil))))
    (pss_cons (ps_if (pt_not (pt_chain op_le op_le (pe_ix (ix_tupK K rfl) (pv 9) pe_int (fun _ _ => rfl)) (pe_ix (ix_tupK K rfl) (pe_ix (ix_tupK K rfl) (pv 5) (pe_ix (ix_tupK K rfl) (pv 8) pe_int (fun _ _ => rfl)) (fun _ _ => rfl)) (pe_ix (ix_tupK K rfl) (pv 8) pe_int (fun _ _ => rfl)) (fun _ _ => rfl)) (pe_ix (ix_tupK K rfl) (pv 9) pe_int (fun _ _ => rfl)))) (pss_one (ps_ret pe_bl)) pss_nil)
    (pss_cons (ps_if (pt_not (pt_val (pe_ca c_shows_bounds hr (by decide) (by rfl) (pa_cons (pv 5) (pa_cons (pv 6) (pa_cons (pv 8) (pa_cons (pv 9) pa_nil))))))) (pss_one (ps_ret pe_bl)) pss_nil)
    (pss_cons (ps_set (i := 11) nd rfl (Or.inl rfl) (pe_cmpR op_eq (pe_ix (ix_tupK K rfl) (pv 9) pe_int (fun _ _ => rfl)) (pe_ix (ix_tupK K rfl) (pv 9) pe_int (fun _ _ => rfl)) (nomark _)))
    (pss_cons (ps_if (PW.pt (pw_and (pt_val (pv 3)) (pw_and1 (pt_cmpR op_ne (pe_cmpR (op_inTDK K rfl hr.units) (pv 8) (pe_ca c_given_away hr (by decide) (by rfl) (pa_cons (pv 5) (pa_cons (pv 6) pa_nil))) rfl) (pv 11) (nomark _))))) (pss_one (ps_ret pe_bl)) pss_nil)
    (pss_cons (ps_if (pt_cmpR (op_neDK K rfl hr.units) (pe_ca c_law_ends hr (by decide) (by rfl) (pa_cons (pe_ca c_law_others hr (by decide) (by rfl) (pa_cons (pv 2) (pa_cons (pv 5) (pa_cons (pv 6) pa_nil)))) (pa_cons (pv 6) (pa_cons (pv 8) pa_nil)))) (pv 10) (nomark _)) (pss_one (ps_ret pe_bl)) pss_nil)
    (pss_cons (ps_for PassesOwn.never rfl (pi_tupK K rfl (pe_tup (pa_cons (pe_ix (ix_tupK K rfl) (pv 9) pe_int (fun _ _ => rfl)) (pa_cons (pe_ix (ix_tupK K rfl) (pv 9) pe_int (fun _ _ => rfl)) pa_nil)))) (pg_name (i := 12) nd rfl (Or.inl rfl)) (pss_one (ps_if (pt_cmpR op_le (pe_callB (ck_maxK K rfl rfl) (by rfl) T.max_ (by decide +kernel) (pa_cons (pe_lc (own := [("_law_line", 14)]) rfl nd (pi_tupK K rfl (pv 12)) (blkOk_by (N := n_law) (sc := defScope s_law) (by decide +kernel)) (fun _ _ _ _ _ => (pg_name (i := 14) nd rfl (Or.inl rfl))) (fun _ _ _ _ _ => pts_nil) (fun _ _ _ _ _ => (pe_callB (ck_maxTK K rfl rfl) (by rfl) T.max_ (by decide +kernel) (pa_cons (pv 14) pa_nil)))) pa_nil)) (pe_op op_powB pe_int pe_int) (nomark _)) (pss_cons (ps_if (pt_cmpR (op_neDK K rfl hr.units) (pe_ca c_law_ends hr (by decide) (by rfl) (pa_cons (pv 12) (pa_cons (pv 6) (pa_cons (pv 8) pa_nil)))) (pv 10) (nomark _)) (pss_one (ps_ret pe_bl)) pss_nil)
    (pss_one (ps_if (pt_not (pt_val (pe_ca c_shows_bounds hr (by decide) (by rfl) (pa_cons (pv 12) (pa_cons (pv 6) (pa_cons (pv 8) (pa_cons (pv 9) pa_nil))))))) (pss_one (ps_ret pe_bl)) pss_nil))) pss_nil)))
    (pss_cons (ps_if (pt_not (pt_val (pe_ca c_law_turned_right hr (by decide) (by rfl) (pa_cons (pv 2) (pa_cons (pv 5) (pa_cons (pv 6) (pa_cons (pv 8) (pa_cons (pv 10) (pa_cons (pv 3) pa_nil))))))))) (pss_one (ps_ret pe_bl)) pss_nil)
    (pss_one (ps_if (pt_not (pt_val (pe_ca c_law_more_right hr (by decide) (by rfl) (pa_cons (pv 2) (pa_cons (pv 5) (pa_cons (pv 6) (pa_cons (pv 8) (pa_cons (pv 10) (pa_cons (pv 3) pa_nil))))))))) (pss_one (ps_ret pe_bl)) pss_nil))))))))))))))))))))
    (pss_one (ps_ret pe_bl))), ?_⟩
  have S : Sl K H _ [.v (.ref sa), .no, .no, .no, .no, .no, .no, .no, .no, .no, .no, .no, .no, .no, .no] := sl_vals (vs := [.ref sa]) n_law
  have hbN : ∀ x : Int, 0 ≤ x → ∃ N : Nat, (if (if x < 63 then x else 63) > 1 then (if x < 63 then x else 63) else 1) = (N : Int) ∧ N ≤ 63 := by
    intro x hx
    by_cases h1 : x < 63
    · simp only [if_pos h1]
      by_cases h2 : x > 1
      · simp only [if_pos h2]
        exact ⟨x.toNat, by omega, by omega⟩
      · simp only [if_neg h2]
        exact ⟨1, rfl, by omega⟩
    · simp only [if_neg h1]
      exact ⟨63, rfl, by omega⟩
  obtain ⟨N, hN, hN63⟩ := hbN ((ns.length : Nat) : Int) (by omega)
  refine s_for (H0 := H) (j_range (n := N) ((e_max2 e_int (e_min2 e_int ((e_lenQ rfl hsq).to (by rw [List.length_map])))).to (congrArg PyData.int hN)) (by omega)) (Ex.refl _) S fun H1 e1 S1 => ?_
  refine ⟨fun i σ' H' => Ex H1 H' ∧ Sl K H' σ' [.v (.ref sa), .no, .no, .no, .no, .no, .no, .no, .no, .no, .no, .no, .no, .no, .no], ⟨Ex.refl _, S1⟩, fun i σ' H' h => Tx.of h.1, ?_, ?_⟩
  · rintro i d v σ' Ha H2 hd ⟨exa, Sa⟩ ea hv2
    obtain ⟨hi, rfl⟩ := dNs_at hd
    have ex2 := exa.trans ea
    refine tg_name v σ' H2 _ hv2 (Sa.ex ea) fun σ2 S2 _ => ?_
    have hsq2 := sql_ex hsq (e1.trans ex2)
    -- the pot
    refine s_asgV (R := fun v H3 => ∃ pp, v = .ref pp ∧ H2 pp = none ∧ Ex H2 H3 ∧ PotAt H3 pp 0) (fun Q q => ?_) fun vp H3 ⟨pp, evp, hpp, e3, pot3⟩ => ?_
    · obtain ⟨v1, hv1, hd1⟩ := S2.dat (i := 1) rfl
      cases dp_int hd1
      exact ⟨_, S2.val rfl, _, hv1, sa, ns, i, rfl, hsq2, by omega, fun pp H3 hpp e3 pot3 => q _ H3 ⟨pp, rfl, hpp, e3, pot3⟩⟩
    subst evp
    have S3 : Sl K H3 _ [.v (.ref sa), .d (.int (i : Nat)), .v (.ref pp), .no, .no, .no, .no, .no, .no, .no, .no, .no, .no, .no, .no] := (S2.ex e3).setV (i := 2)
    have ex3 := ex2.trans e3
    have hpp1 : H1 pp = none := fresh_back ex2 hpp
    refine s_asg (H0 := fun _ => none) (e_lt (e_var rfl) e_int) exN S3 fun σ4 H4 e4 S4 => ?_
    generalize decide (((i : Nat) : Int) < 3) = wh at S4
    refine s_asg (H0 := fun _ => none) (d := .int (((if wh then 6 else 4 : Nat)) : Int)) (e_ixL (l_lst (a_cons e_int (a_cons e_int a_nil)) (by simp)).eh (e_intB (e_var rfl)) (by cases wh <;> rfl)) exN S4 fun σ5 H5 e5 S5 => ?_
    obtain ⟨c, hc, hc1⟩ : ∃ c : Nat, (if wh then 6 else 4 : Nat) = c ∧ 1 ≤ c ∧ c ≤ 6 := ⟨_, rfl, by cases wh <;> decide⟩
    rw [hc] at S5
    have pot5 := (pot3.ex' e4).ex' e5
    -- the counts
    refine s_asgV (R := fun v H7 => ∃ C, Xp pp H5 H7 ∧ PotAt H7 pp 1000 ∧ Dq K H7 v (dTab C) ∧ VC C) (fun Q q => ?_) fun v7 H7 ⟨C, x7, pot7, d7, hC⟩ => ?_
    · refine ⟨_, S5.val rfl, pp, 0, rfl, pot5, by omega, fun vc C H6 x6 pot6 dC hC => ?_⟩
      have S6 := S5.tx rfl (x6.tx pot5)
      have hC6 := hC.l6
      have hW6 := hC.w6
      exact ((e_tupOf (l_lcA (C.take c) dRow (fun r => dRow (r.take c)) _ (i_tup ((e_slT (e_con (H0 := H6) dC) o_none (o_some (e_var (n := 4) rfl))).to (by rw [cut_to, List.map_take]))) (by rw [List.length_take]; omega) (js := [13]) (by simp) (fun _ _ => tg_name) (fun r _ => (e_slT (e_var rfl) o_none (o_some (e_var (n := 4) rfl))).to (by rw [cut_to, ← List.map_take]; rfl)) (fun r => tuO_row _)).eh).to (e := dTab (cutT C c)) (by unfold dTab cutT; rw [List.map_map]; rfl)) _ H6 (Ex.refl _) S6 Q fun v7 H7 e7 d7 =>
        q v7 H7 ⟨_, x6.trans (Xp.of e7), pot6.ex' e7, d7, cut_vc hC hc1.1⟩
    have S7 : Sl K H7 _ [.v (.ref sa), .d (.int (i : Nat)), .v (.ref pp), .d (.bool wh), .d (.int (c : Nat)), .d (dTab C), .no, .no, .no, .no, .no, .no, .no, .no, .no] := (S5.tx rfl (x7.tx pot5)).setD (i := 5) d7
    have ex7 : Ex H1 H7 := x7.ex hpp1 (ex3.trans (e4.trans e5))
    -- the hidden
    refine s_asgV (R := fun v H8 => ∃ hs, Xp pp H7 H8 ∧ PotAt H8 pp 2000 ∧ Dq K H8 v (dHid hs) ∧ VH C hs) (fun Q q => ?_) fun v8 H8 ⟨hs, x8, pot8, d8, hH⟩ => ?_
    · obtain ⟨v5, hv5, hd5⟩ := S7.dat (i := 5) rfl
      exact ⟨_, S7.val rfl, v5, hv5, pp, 1000, C, v5, rfl, pot7, by omega, hd5, hC, fun v8 hs H8 x8 pot8 d8 hH => q v8 H8 ⟨hs, x8, pot8, d8, hH⟩⟩
    have S8 : Sl K H8 _ [.v (.ref sa), .d (.int (i : Nat)), .v (.ref pp), .d (.bool wh), .d (.int (c : Nat)), .d (dTab C), .d (dHid hs), .no, .no, .no, .no, .no, .no, .no, .no] := (S7.tx (by simp [En.ok, tuO_tab, tuO]) (x8.tx pot7)).setD (i := 6) d8
    have ex8 := x8.ex hpp1 ex7
    have hlen := hH.len hC
    refine s_forE (H0 := fun _ => none) (j_range (n := (if wh then 1 else 2) * (if hs = [] then 0 else 1)) ((e_mul (e_ixL (l_lst (a_cons e_int (a_cons e_int a_nil)) (by simp)).eh (e_intB (e_var rfl)) (d := .int (if wh then 1 else 2)) (by cases wh <;> rfl)) (e_intB (e_neD (e_var rfl) (e_tup a_nil (by simp)) (shaped_hid hs) rfl)) (.inl (by cases wh <;> decide))).to (turns_eq wh hs)) (Nat.le_trans (turns_le wh hs) (by decide))) exN S8 fun H9 e9 S9 => ?_
    refine ⟨fun j σ' H' => Ex H1 H' ∧ Tx K H9 H' ∧ PotAt H' pp (2000 + 200 * j) ∧ Sl K H' σ' [.v (.ref sa), .d (.int (i : Nat)), .v (.ref pp), .d (.bool wh), .d (.int (c : Nat)), .d (dTab C), .d (dHid hs), .no, .no, .no, .no, .no, .no, .no, .no], ⟨ex8.trans e9, Tx.refl _, (pot8.ex' e9).mono (by omega), S9⟩, fun j σ' H' h => h.2.1, ?_, ?_⟩
    · rintro j d vj σb Hb Hc hd ⟨exb, txb, potb, Sb⟩ ec hvj
      obtain ⟨hj, rfl⟩ := dNs_at hd
      have hs0 : 0 < hs.length := by
        cases hs with
        | nil => simp at hj
        | cons _ _ => simp
      have hj2 : j < 2 := Nat.lt_of_lt_of_le hj (turns_le wh hs)
      refine tg_name vj σb Hc _ hvj (Sb.ex ec) fun σd Sd _ => ?_
      have potc := potb.ex' ec
      have exc := exb.trans ec
      -- the place
      have okd : ([.v (.ref sa), .d (.int (i : Nat)), .v (.ref pp), .d (.bool wh), .d (.int (c : Nat)), .d (dTab C), .d (dHid hs), .d (.int (j : Nat)), .no, .no, .no, .no, .no, .no, .no] : Env1).all En.ok = true := by simp [En.ok, tuO_tab, tuO_hid, tuO]
      refine s_asgV (R := fun v Hf => ∃ p, Xp pp Hc Hf ∧ PotAt Hf pp (2000 + 200 * j + 1) ∧ Dq K Hf v (dPl p) ∧ p ∈ hs) (fun Q q => ?_) fun vf Hf ⟨p, xcf, potf, df, hp⟩ => ?_
      · obtain ⟨v6, hv6, hd6⟩ := Sd.dat (i := 6) rfl
        refine ⟨v6, hv6, _, Sd.val rfl, ?_⟩
        have lenE : Eh K (fun _ => none) [.v (.ref sa), .d (.int (i : Nat)), .v (.ref pp), .d (.bool wh), .d (.int (c : Nat)), .d (dTab C), .d (dHid hs), .d (.int (j : Nat)), .no, .no, .no, .no, .no, .no, .no] (tCB (rLenS K) (tCons (tVar 6) tNil)) (.int (hs.length : Nat)) := (e_lenT (e_var rfl)).to (by rw [List.length_map])
        refine lenE _ Hc exN Sd _ fun u Hd ed dd => ⟨pp, (hs.length : Nat), 2000 + 200 * j, by rw [dp_int dd]; rfl, potc.ex' ed, by omega, by omega, by omega, fun pi He xe pote hp0 hp1 => ?_⟩
        obtain ⟨pN, rfl⟩ : ∃ pN : Nat, pi = (pN : Int) := ⟨pi.toNat, by omega⟩
        have hpN : pN < hs.length := by omega
        have xce : Xp pp Hc He := (Xp.of ed).trans xe
        have txce : Tx K Hc He := xce.tx potc
        exact (e_ixT (e_con (H0 := He) (dp_tx txce _ _ (tuO_hid hs) hd6)) (e_con (.int _)) (d := dPl hs[pN]) (atI_nat (by rw [List.getElem?_map, List.getElem?_eq_getElem hpN]; rfl))) _ He (Ex.refl _) (Sd.tx okd txce) Q fun vf Hf ef df => q vf Hf ⟨hs[pN], xce.trans (Xp.of ef), pote.ex' ef, df, List.getElem_mem hpN⟩
      have Sf : Sl K Hf _ [.v (.ref sa), .d (.int (i : Nat)), .v (.ref pp), .d (.bool wh), .d (.int (c : Nat)), .d (dTab C), .d (dHid hs), .d (.int (j : Nat)), .d (dPl p), .no, .no, .no, .no, .no, .no] := (Sd.tx okd (xcf.tx potc)).setD (i := 8) df
      have exf := xcf.ex hpp1 exc
      have txf : Tx K H9 Hf := (txb.trans (Tx.of ec)).trans (xcf.tx potc)
      have hpin : inT C p := hH.inT hC p hp
      refine s_asgP (H0 := fun _ => none) (p_call (args := fun a : Tab × List Pl × Pl => [dTab a.1, dHid a.2.1, dPl a.2.2]) (pre := fun a => VC a.1 ∧ VH a.1 a.2.1 ∧ a.2.2 ∈ a.2.1) (C, hs, p) (a_cons (e_var rfl) (a_cons (e_var rfl) (a_cons (e_var rfl) a_nil))) ⟨hC, hH, hp⟩) exN Sf fun σg Hg dt eg pt Sg => ?_
      obtain ⟨n, T1, a1, b1, m, T2, a2, b2, rfl, G1, G2⟩ := pt
      have ca := G1.cert
      have cb := G2.cert
      refine s_asg (H0 := fun _ => none) (d := dEnds n m) (e_tup (a_cons (e_ixT (e_var rfl) e_int at0) (a_cons (e_ixT (e_var rfl) e_int (atI_nat (j := 3) rfl)) a_nil)) (by simp)) exN Sg fun σh Hh eh Sh => ?_
      have btw := Cert.between hH.nd hp (fun h _ => hC.tat_nn h) ca cb
      refine s_ifF (H0 := fun _ => none) ((b_not (b_test (e_chain (e_ixT (e_var rfl) e_int at0) (e_ixT (e_ixT (e_var rfl) (e_ixT (e_var rfl) e_int at0) (at_rowT hpin)) (e_ixT (e_var rfl) e_int at1) (at_cell hpin)) (e_ixT (e_var rfl) e_int (atI_nat (j := 3) rfl))))).to (by rw [decide_eq_true btw.1, decide_eq_true btw.2]; rfl)) exN Sh fun Hi ei Si => ?_
      refine s_ifF (H0 := fun _ => none) ((b_not (b_B (e_call (⟨C, hs, p, n, T1, a1, b1, m, T2, a2, b2⟩ : Ak.Sb) (a_cons (e_var rfl) (a_cons (e_var rfl) (a_cons (e_var rfl) (a_cons (e_var rfl) a_nil)))) ⟨hC, hH, hp, G1, G2⟩ fun _ p => p))).to rfl) exN Si fun Hj ej Sj => ?_
      refine s_asg (H0 := fun _ => none) (e_eqI (e_ixT (e_var rfl) e_int at0) (e_ixT (e_var rfl) e_int (atI_nat (j := 3) rfl))) exN Sj fun σk Hk ek Sk => ?_
      refine s_ifF (H0 := fun _ => none) ((b_and (b_B (e_var rfl)) fun _ => b_test (e_neB (e_inTD (neg := false) (ds := (awayL C hs).map dPl) (e_var rfl) (e_call (d := dHid (awayL C hs)) (C, hs) (a_cons (e_var rfl) (a_cons (e_var rfl) a_nil)) ⟨hC, hH⟩ fun _ p => p) (shaped_pl _) (shaped_hid _)) (e_var rfl))).to ?_) exN Sk fun Hl el Sl' => ?_
      · rw [any_pl]
        have h1 : decide (p ∈ awayL C hs) = isAway C hs p := by
          cases hz : isAway C hs p with
          | true => exact decide_eq_true (List.mem_filter.mpr ⟨hp, hz⟩)
          | false =>
            refine decide_eq_false fun z => ?_
            have h2 := (List.mem_filter.mp z).2
            rw [hz] at h2
            cases h2
        rw [h1, ← isAway_of hH.nd hp ca cb]
        simp
      have efl : Ex Hf Hl := ((eg.trans eh).trans (ei.trans ej)).trans (ek.trans el)
      have potl := potf.ex' efl
      have exl := exf.trans efl
      have txl := txf.trans (Tx.of efl)
      have okl : ([.v (.ref sa), .d (.int (i : Nat)), .v (.ref pp), .d (.bool wh), .d (.int (c : Nat)), .d (dTab C), .d (dHid hs), .d (.int (j : Nat)), .d (dPl p), .d (dTold n T1 a1 b1 m T2 a2 b2), .d (dEnds n m), .d (.bool (decide (n = m))), .no, .no, .no] : Env1).all En.ok = true := by simp [En.ok, tuO_tab, tuO_hid, tuO_pl, tuO_told, tuO, dEnds, tuOs]
      -- others
      refine s_ifQ (R := fun H' => Xp pp Hl H' ∧ PotAt H' pp (2000 + 200 * j + 1 + 100)) (fun Q q => ?_) fun Hm ⟨xm, potm⟩ => ?_
      · obtain ⟨u5, hu5, du5⟩ := Sl'.dat (i := 5) rfl
        obtain ⟨u6, hu6, du6⟩ := Sl'.dat (i := 6) rfl
        refine ⟨_, Sl'.val rfl, u5, hu5, u6, hu6, pp, _, C, hs, u5, u6, rfl, potl, by omega, du5, du6, hC, hH, fun vo C' Hx xx potx dx hCx hlx hwx hsx => ?_⟩
        have Sx := Sl'.tx okl (xx.tx potl)
        have hHx : VH C' hs := ⟨fun h hh => by rw [hlx, hwx]; exact hH.inr h hh, hH.rise⟩
        have eqm : EqM hs (tat C) (tat C') := EqM.of_on fun q hq => (hsx q hq).symm
        exact ((b_test (e_neD (e_ends (C := C') (hs := hs) (p := p) (a_cons (e_con (H0 := Hx) dx) (a_cons (e_var (n := 6) rfl) (a_cons (e_var (n := 8) rfl) a_nil))) hCx hHx hp (ca.cong eqm) (cb.cong eqm)) (e_var (n := 10) rfl) (shaped_ends _ _) (shaped_ends _ _))).to (b := false) (by rw [eqv_same (shaped_ends n m)]; rfl)) _ Hx (Ex.refl _) Sx Q fun Hy ey => q Hy ⟨xx.trans (Xp.of ey), potx.ex' ey⟩
      have Sm := Sl'.tx okl (xm.tx potl)
      have exm := xm.ex hpp1 exl
      have txm : Tx K H9 Hm := txl.trans (xm.tx potl)
      -- the tables told
      refine s_forP (H0 := fun _ => none) (Γ1 := [.v (.ref sa), .d (.int (i : Nat)), .v (.ref pp), .d (.bool wh), .d (.int (c : Nat)), .d (dTab C), .d (dHid hs), .d (.int (j : Nat)), .d (dPl p), .d (dTold n T1 a1 b1 m T2 a2 b2), .d (dEnds n m), .d (.bool (decide (n = m))), .no, .no, .no]) (js := [12]) (ds := [dTab T1, dTab T2]) (j_tup (e_tup (a_cons (e_ixT (e_var rfl) e_int at1) (a_cons (e_ixT (e_var rfl) e_int (atI_nat (j := 4) rfl)) a_nil)) (by simp)) (by simp [tuOs, tuO_tab])) exN Sm (fun d => [.v (.ref sa), .d (.int (i : Nat)), .v (.ref pp), .d (.bool wh), .d (.int (c : Nat)), .d (dTab C), .d (dHid hs), .d (.int (j : Nat)), .d (dPl p), .d (dTold n T1 a1 b1 m T2 a2 b2), .d (dEnds n m), .d (.bool (decide (n = m))), .d d, .no, .no]) ⟨rfl, fun i e z => .inl z⟩ (fun d _ => tg_name) (fun d hd D' σn Hn en Sn nx rt => ?_) fun σn Hn en Sn => ?_
      · obtain ⟨M, F, rfl⟩ : ∃ M, Feas C hs M ∧ d = dTab M := by
          rcases List.mem_cons.mp hd with z | z
          · exact ⟨T1, G1.feas, z⟩
          · exact ⟨T2, G2.feas, List.mem_singleton.mp z⟩
        have lM := len_shp F.shape
        have l1 := hC.l1
        have l6 := hC.l6
        have hrM : ∀ r ∈ M, 0 < r.length := fun r hr => by
          obtain ⟨i, hi, e⟩ := List.mem_iff_getElem.mp hr
          have h1 : (M.getD i []).length = (C.getD i []).length := by rw [getD_map_len, getD_map_len, F.shape]
          have h2 : M.getD i [] = r := by rw [List.getD_eq_getElem?_getD, List.getElem?_eq_getElem hi, e]; rfl
          rw [h2, hC.row (by omega)] at h1
          have := hC.w1
          omega
        obtain ⟨_, hmx⟩ := mx_tab (show 0 < M.length by omega) hrM
        refine s_ifL (H0 := fun _ => none) (b_test (e_le (e_maxL (r := M.map mx) ((l_lcA M dRow (fun r => .int (mx r)) _ (i_tup (e_var rfl)) (by omega) (js := [14]) (by simp) (fun _ _ => tg_name) (fun r hr => e_maxT (e_var rfl) (hrM r hr)) (fun _ => rfl)).eh.to (by rw [List.map_map]; rfl)) (by rw [List.length_map]; omega)) e_nine)) exN Sn (fun b Ho eo So => ?_) (fun b Ho eo So => nx _ _ eo (So.clr 12))
        have hle := of_decide_eq_true b
        have hCM := feas_vc hC F fun r hr x hx => Int.le_trans (hmx r hr x hx) hle
        have hHM := feas_vh hH F
        have eqm : EqM hs (tat C) (tat M) := F.mar.symm
        refine s_ifF (H0 := fun _ => none) ((b_test (e_neD (e_ends (C := M) (hs := hs) (p := p) (a_cons (e_var rfl) (a_cons (e_var rfl) (a_cons (e_var rfl) a_nil))) hCM hHM hp (ca.cong eqm) (cb.cong eqm)) (e_var rfl) (shaped_ends _ _) (shaped_ends _ _))).to (by rw [eqv_same (shaped_ends n m)]; rfl)) exN So fun Hq eq Sq => ?_
        exact s_ifLF (H0 := fun _ => none) ((b_not (b_B (e_call (⟨M, hs, p, n, T1, a1, b1, m, T2, a2, b2⟩ : Ak.Sb) (a_cons (e_var rfl) (a_cons (e_var rfl) (a_cons (e_var rfl) (a_cons (e_var rfl) a_nil)))) ⟨hCM, hHM, hp, G1.cong F, G2.cong F⟩ fun _ p => p))).to rfl) exN Sq fun Hr er Sr => nx _ _ ((eo.trans eq).trans er) (Sr.clr 12)
      have potn := potm.ex' en
      have exn := exm.trans en
      have txn := txm.trans (Tx.of en)
      -- turned
      refine s_ifQ (R := fun H' => Xp pp Hn H' ∧ PotAt H' pp (2000 + 200 * j + 1 + 100 + 1)) (fun Q q => ?_) fun Ho ⟨xo, poto⟩ => ?_
      · obtain ⟨u5, hu5, du5⟩ := Sn.dat (i := 5) rfl
        obtain ⟨u6, hu6, du6⟩ := Sn.dat (i := 6) rfl
        obtain ⟨u8, hu8, du8⟩ := Sn.dat (i := 8) rfl
        obtain ⟨u10, hu10, du10⟩ := Sn.dat (i := 10) rfl
        obtain ⟨u3, hu3, du3⟩ := Sn.dat (i := 3) rfl
        cases dp_bl du3
        exact ⟨_, Sn.val rfl, u5, hu5, u6, hu6, u8, hu8, u10, hu10, _, hu3, pp, _, C, hs, p, n, m, wh, u5, u6, u8, u10, rfl, potn, by omega, du5, du6, du8, du10, hC, hH, hp, ca, cb, fun H' x' p' => ⟨true, rfl, q H' ⟨x', p'⟩⟩⟩
      have So := Sn.tx okl (xo.tx potn)
      have exo := xo.ex hpp1 exn
      have txo : Tx K H9 Ho := txn.trans (xo.tx potn)
      -- more
      refine s_ifQL (R := fun H' => Xp pp Ho H' ∧ PotAt H' pp (2000 + 200 * j + 1 + 100 + 1 + 2)) (fun Q q => ?_) fun Hq ⟨xq, potq⟩ => ?_
      · obtain ⟨u5, hu5, du5⟩ := So.dat (i := 5) rfl
        obtain ⟨u6, hu6, du6⟩ := So.dat (i := 6) rfl
        obtain ⟨u8, hu8, du8⟩ := So.dat (i := 8) rfl
        obtain ⟨u10, hu10, du10⟩ := So.dat (i := 10) rfl
        obtain ⟨u3, hu3, du3⟩ := So.dat (i := 3) rfl
        cases dp_bl du3
        exact ⟨_, So.val rfl, u5, hu5, u6, hu6, u8, hu8, u10, hu10, _, hu3, pp, _, C, hs, p, n, m, wh, u5, u6, u8, u10, rfl, poto, by omega, du5, du6, du8, du10, hC, hH, hp, ca, cb, fun H' x' p' => ⟨true, rfl, q H' ⟨x', p'⟩⟩⟩
      have Sq := So.tx okl (xq.tx poto)
      exact ⟨xq.ex hpp1 exo, txo.trans (xq.tx poto), potq.mono (by omega), ((((Sq.clr 7).clr 8).clr 9).clr 10).clr 11⟩
    · rintro σb Hb ⟨exb, txb, potb, Sb⟩
      exact ⟨exb, (((((Sb.clr 1).clr 2).clr 3).clr 4).clr 5).clr 6⟩
  · rintro σ' H' ⟨ex, S'⟩
    refine s_ret (H0 := fun _ => none) e_bl exN S' fun v H2 e2 d2 => ?_
    cases dp_bl d2
    exact kk H2
end
end Ak
set_option Elab.async false
set_option linter.all false
set_option maxRecDepth 100000
set_option maxHeartbeats 8000000
/-! AkEnd: what the top has written, joined. -/
namespace Ak
open PySem PySem.Spec PyProof.Rows L2 Evl
theorem mkFn {K : PySem.W.Frag} {h : Heap} {mg : Str → Option Value} {x : Str} {st : Stmt} {ps : List Str} {f : Addr} {od an : Option Addr} {sl : Array (Option Value)} {oc kV dc pm cd ct : Value} (X : K.In h) (G : h.Ns mainGlobals mg)
    (a : PySem.W.nsIn K mainGlobals x = some (some (.ref f))) (l : K.lookup f = some ⟨oc, od, .func (PySem.W.fnOf x x (defArgs st) (defBody st) (defScope st) .none kV dc pm an cd ct), sl⟩) (c : PySem.W.codeIn K cd x = true) (k : PySem.W.keepIn K (.ref f) = true)
    (hb : ∀ (kV doc pm : Value) (an : Option Addr) (cdv ct : Value) (us : List Value), us.length = ps.length → bindArgs (PySem.W.fnOf x x (defArgs st) (defBody st) (defScope st) .none kV doc pm an cdv ct) ⟨us, []⟩ = pure (ps.zip us)) : Fn K mg x st ps :=
  ⟨f, _, fun_mk l c k, PySem.W.mg_of X G a, (fun_mk l c k).binds hb⟩
theorem all_mk {l : PySem.W.OpenLaw} {w : World} {K : PySem.W.Frag} {h : Heap} {mg : Str → Option Value} {fa : Addr} {mlt : Tok} (X : K.In h) (G : h.Ns mainGlobals mg) (hfa : mg "law" = some (.ref fa)) (mc : ∃ t, mg "MOST_COUNT" = some (.int 1000000000 t))
    {f0 : Addr} {od0 an0 : Option Addr} {sl0 : Array (Option Value)} {oc0 kV0 dc0 pm0 cd0 ct0 : Value} (a0 : PySem.W.nsIn K mainGlobals "is_whole" = some (some (.ref f0))) (l0 : K.lookup f0 = some ⟨oc0, od0, .func (PySem.W.fnOf "is_whole" "is_whole" (defArgs s_is_whole) (defBody s_is_whole) (defScope s_is_whole) .none kV0 dc0 pm0 an0 cd0 ct0), sl0⟩) (c0 : PySem.W.codeIn K cd0 "is_whole" = true) (k0 : PySem.W.keepIn K (.ref f0) = true)
    {f1 : Addr} {od1 an1 : Option Addr} {sl1 : Array (Option Value)} {oc1 kV1 dc1 pm1 cd1 ct1 : Value} (a1 : PySem.W.nsIn K mainGlobals "is_within" = some (some (.ref f1))) (l1 : K.lookup f1 = some ⟨oc1, od1, .func (PySem.W.fnOf "is_within" "is_within" (defArgs s_is_within) (defBody s_is_within) (defScope s_is_within) .none kV1 dc1 pm1 an1 cd1 ct1), sl1⟩) (c1 : PySem.W.codeIn K cd1 "is_within" = true) (k1 : PySem.W.keepIn K (.ref f1) = true)
    {f2 : Addr} {od2 an2 : Option Addr} {sl2 : Array (Option Value)} {oc2 kV2 dc2 pm2 cd2 ct2 : Value} (a2 : PySem.W.nsIn K mainGlobals "are_counts" = some (some (.ref f2))) (l2 : K.lookup f2 = some ⟨oc2, od2, .func (PySem.W.fnOf "are_counts" "are_counts" (defArgs s_are_counts) (defBody s_are_counts) (defScope s_are_counts) .none kV2 dc2 pm2 an2 cd2 ct2), sl2⟩) (c2 : PySem.W.codeIn K cd2 "are_counts" = true) (k2 : PySem.W.keepIn K (.ref f2) = true)
    {f3 : Addr} {od3 an3 : Option Addr} {sl3 : Array (Option Value)} {oc3 kV3 dc3 pm3 cd3 ct3 : Value} (a3 : PySem.W.nsIn K mainGlobals "is_place" = some (some (.ref f3))) (l3 : K.lookup f3 = some ⟨oc3, od3, .func (PySem.W.fnOf "is_place" "is_place" (defArgs s_is_place) (defBody s_is_place) (defScope s_is_place) .none kV3 dc3 pm3 an3 cd3 ct3), sl3⟩) (c3 : PySem.W.codeIn K cd3 "is_place" = true) (k3 : PySem.W.keepIn K (.ref f3) = true)
    {f4 : Addr} {od4 an4 : Option Addr} {sl4 : Array (Option Value)} {oc4 kV4 dc4 pm4 cd4 ct4 : Value} (a4 : PySem.W.nsIn K mainGlobals "are_places" = some (some (.ref f4))) (l4 : K.lookup f4 = some ⟨oc4, od4, .func (PySem.W.fnOf "are_places" "are_places" (defArgs s_are_places) (defBody s_are_places) (defScope s_are_places) .none kV4 dc4 pm4 an4 cd4 ct4), sl4⟩) (c4 : PySem.W.codeIn K cd4 "are_places" = true) (k4 : PySem.W.keepIn K (.ref f4) = true)
    {f5 : Addr} {od5 an5 : Option Addr} {sl5 : Array (Option Value)} {oc5 kV5 dc5 pm5 cd5 ct5 : Value} (a5 : PySem.W.nsIn K mainGlobals "need_hidden" = some (some (.ref f5))) (l5 : K.lookup f5 = some ⟨oc5, od5, .func (PySem.W.fnOf "need_hidden" "need_hidden" (defArgs s_need_hidden) (defBody s_need_hidden) (defScope s_need_hidden) .none kV5 dc5 pm5 an5 cd5 ct5), sl5⟩) (c5 : PySem.W.codeIn K cd5 "need_hidden" = true) (k5 : PySem.W.keepIn K (.ref f5) = true)
    {f6 : Addr} {od6 an6 : Option Addr} {sl6 : Array (Option Value)} {oc6 kV6 dc6 pm6 cd6 ct6 : Value} (a6 : PySem.W.nsIn K mainGlobals "need_place" = some (some (.ref f6))) (l6 : K.lookup f6 = some ⟨oc6, od6, .func (PySem.W.fnOf "need_place" "need_place" (defArgs s_need_place) (defBody s_need_place) (defScope s_need_place) .none kV6 dc6 pm6 an6 cd6 ct6), sl6⟩) (c6 : PySem.W.codeIn K cd6 "need_place" = true) (k6 : PySem.W.keepIn K (.ref f6) = true)
    {f7 : Addr} {od7 an7 : Option Addr} {sl7 : Array (Option Value)} {oc7 kV7 dc7 pm7 cd7 ct7 : Value} (a7 : PySem.W.nsIn K mainGlobals "steps_from" = some (some (.ref f7))) (l7 : K.lookup f7 = some ⟨oc7, od7, .func (PySem.W.fnOf "steps_from" "steps_from" (defArgs s_steps_from) (defBody s_steps_from) (defScope s_steps_from) .none kV7 dc7 pm7 an7 cd7 ct7), sl7⟩) (c7 : PySem.W.codeIn K cd7 "steps_from" = true) (k7 : PySem.W.keepIn K (.ref f7) = true)
    {f8 : Addr} {od8 an8 : Option Addr} {sl8 : Array (Option Value)} {oc8 kV8 dc8 pm8 cd8 ct8 : Value} (a8 : PySem.W.nsIn K mainGlobals "reached_from" = some (some (.ref f8))) (l8 : K.lookup f8 = some ⟨oc8, od8, .func (PySem.W.fnOf "reached_from" "reached_from" (defArgs s_reached_from) (defBody s_reached_from) (defScope s_reached_from) .none kV8 dc8 pm8 an8 cd8 ct8), sl8⟩) (c8 : PySem.W.codeIn K cd8 "reached_from" = true) (k8 : PySem.W.keepIn K (.ref f8) = true)
    {f9 : Addr} {od9 an9 : Option Addr} {sl9 : Array (Option Value)} {oc9 kV9 dc9 pm9 cd9 ct9 : Value} (a9 : PySem.W.nsIn K mainGlobals "road_to" = some (some (.ref f9))) (l9 : K.lookup f9 = some ⟨oc9, od9, .func (PySem.W.fnOf "road_to" "road_to" (defArgs s_road_to) (defBody s_road_to) (defScope s_road_to) .none kV9 dc9 pm9 an9 cd9 ct9), sl9⟩) (c9 : PySem.W.codeIn K cd9 "road_to" = true) (k9 : PySem.W.keepIn K (.ref f9) = true)
    {f10 : Addr} {od10 an10 : Option Addr} {sl10 : Array (Option Value)} {oc10 kV10 dc10 pm10 cd10 ct10 : Value} (a10 : PySem.W.nsIn K mainGlobals "led_round" = some (some (.ref f10))) (l10 : K.lookup f10 = some ⟨oc10, od10, .func (PySem.W.fnOf "led_round" "led_round" (defArgs s_led_round) (defBody s_led_round) (defScope s_led_round) .none kV10 dc10 pm10 an10 cd10 ct10), sl10⟩) (c10 : PySem.W.codeIn K cd10 "led_round" = true) (k10 : PySem.W.keepIn K (.ref f10) = true)
    {f11 : Addr} {od11 an11 : Option Addr} {sl11 : Array (Option Value)} {oc11 kV11 dc11 pm11 cd11 ct11 : Value} (a11 : PySem.W.nsIn K mainGlobals "paper_of" = some (some (.ref f11))) (l11 : K.lookup f11 = some ⟨oc11, od11, .func (PySem.W.fnOf "paper_of" "paper_of" (defArgs s_paper_of) (defBody s_paper_of) (defScope s_paper_of) .none kV11 dc11 pm11 an11 cd11 ct11), sl11⟩) (c11 : PySem.W.codeIn K cd11 "paper_of" = true) (k11 : PySem.W.keepIn K (.ref f11) = true)
    {f12 : Addr} {od12 an12 : Option Addr} {sl12 : Array (Option Value)} {oc12 kV12 dc12 pm12 cd12 ct12 : Value} (a12 : PySem.W.nsIn K mainGlobals "bounds_at" = some (some (.ref f12))) (l12 : K.lookup f12 = some ⟨oc12, od12, .func (PySem.W.fnOf "bounds_at" "bounds_at" (defArgs s_bounds_at) (defBody s_bounds_at) (defScope s_bounds_at) .none kV12 dc12 pm12 an12 cd12 ct12), sl12⟩) (c12 : PySem.W.codeIn K cd12 "bounds_at" = true) (k12 : PySem.W.keepIn K (.ref f12) = true)
    {f13 : Addr} {od13 an13 : Option Addr} {sl13 : Array (Option Value)} {oc13 kV13 dc13 pm13 cd13 ct13 : Value} (a13 : PySem.W.nsIn K mainGlobals "left_of" = some (some (.ref f13))) (l13 : K.lookup f13 = some ⟨oc13, od13, .func (PySem.W.fnOf "left_of" "left_of" (defArgs s_left_of) (defBody s_left_of) (defScope s_left_of) .none kV13 dc13 pm13 an13 cd13 ct13), sl13⟩) (c13 : PySem.W.codeIn K cd13 "left_of" = true) (k13 : PySem.W.keepIn K (.ref f13) = true)
    {f14 : Addr} {od14 an14 : Option Addr} {sl14 : Array (Option Value)} {oc14 kV14 dc14 pm14 cd14 ct14 : Value} (a14 : PySem.W.nsIn K mainGlobals "can_be" = some (some (.ref f14))) (l14 : K.lookup f14 = some ⟨oc14, od14, .func (PySem.W.fnOf "can_be" "can_be" (defArgs s_can_be) (defBody s_can_be) (defScope s_can_be) .none kV14 dc14 pm14 an14 cd14 ct14), sl14⟩) (c14 : PySem.W.codeIn K cd14 "can_be" = true) (k14 : PySem.W.keepIn K (.ref f14) = true)
    {f15 : Addr} {od15 an15 : Option Addr} {sl15 : Array (Option Value)} {oc15 kV15 dc15 pm15 cd15 ct15 : Value} (a15 : PySem.W.nsIn K mainGlobals "are_numbers" = some (some (.ref f15))) (l15 : K.lookup f15 = some ⟨oc15, od15, .func (PySem.W.fnOf "are_numbers" "are_numbers" (defArgs s_are_numbers) (defBody s_are_numbers) (defScope s_are_numbers) .none kV15 dc15 pm15 an15 cd15 ct15), sl15⟩) (c15 : PySem.W.codeIn K cd15 "are_numbers" = true) (k15 : PySem.W.keepIn K (.ref f15) = true)
    {f16 : Addr} {od16 an16 : Option Addr} {sl16 : Array (Option Value)} {oc16 kV16 dc16 pm16 cd16 ct16 : Value} (a16 : PySem.W.nsIn K mainGlobals "is_paper" = some (some (.ref f16))) (l16 : K.lookup f16 = some ⟨oc16, od16, .func (PySem.W.fnOf "is_paper" "is_paper" (defArgs s_is_paper) (defBody s_is_paper) (defScope s_is_paper) .none kV16 dc16 pm16 an16 cd16 ct16), sl16⟩) (c16 : PySem.W.codeIn K cd16 "is_paper" = true) (k16 : PySem.W.keepIn K (.ref f16) = true)
    {f17 : Addr} {od17 an17 : Option Addr} {sl17 : Array (Option Value)} {oc17 kV17 dc17 pm17 cd17 ct17 : Value} (a17 : PySem.W.nsIn K mainGlobals "is_bound" = some (some (.ref f17))) (l17 : K.lookup f17 = some ⟨oc17, od17, .func (PySem.W.fnOf "is_bound" "is_bound" (defArgs s_is_bound) (defBody s_is_bound) (defScope s_is_bound) .none kV17 dc17 pm17 an17 cd17 ct17), sl17⟩) (c17 : PySem.W.codeIn K cd17 "is_bound" = true) (k17 : PySem.W.keepIn K (.ref f17) = true)
    {f18 : Addr} {od18 an18 : Option Addr} {sl18 : Array (Option Value)} {oc18 kV18 dc18 pm18 cd18 ct18 : Value} (a18 : PySem.W.nsIn K mainGlobals "shows_bounds" = some (some (.ref f18))) (l18 : K.lookup f18 = some ⟨oc18, od18, .func (PySem.W.fnOf "shows_bounds" "shows_bounds" (defArgs s_shows_bounds) (defBody s_shows_bounds) (defScope s_shows_bounds) .none kV18 dc18 pm18 an18 cd18 ct18), sl18⟩) (c18 : PySem.W.codeIn K cd18 "shows_bounds" = true) (k18 : PySem.W.keepIn K (.ref f18) = true)
    {f19 : Addr} {od19 an19 : Option Addr} {sl19 : Array (Option Value)} {oc19 kV19 dc19 pm19 cd19 ct19 : Value} (a19 : PySem.W.nsIn K mainGlobals "given_away" = some (some (.ref f19))) (l19 : K.lookup f19 = some ⟨oc19, od19, .func (PySem.W.fnOf "given_away" "given_away" (defArgs s_given_away) (defBody s_given_away) (defScope s_given_away) .none kV19 dc19 pm19 an19 cd19 ct19), sl19⟩) (c19 : PySem.W.codeIn K cd19 "given_away" = true) (k19 : PySem.W.keepIn K (.ref f19) = true)
    {f20 : Addr} {od20 an20 : Option Addr} {sl20 : Array (Option Value)} {oc20 kV20 dc20 pm20 cd20 ct20 : Value} (a20 : PySem.W.nsIn K mainGlobals "_law_pot" = some (some (.ref f20))) (l20 : K.lookup f20 = some ⟨oc20, od20, .func (PySem.W.fnOf "_law_pot" "_law_pot" (defArgs s_law_pot) (defBody s_law_pot) (defScope s_law_pot) .none kV20 dc20 pm20 an20 cd20 ct20), sl20⟩) (c20 : PySem.W.codeIn K cd20 "_law_pot" = true) (k20 : PySem.W.keepIn K (.ref f20) = true)
    {f21 : Addr} {od21 an21 : Option Addr} {sl21 : Array (Option Value)} {oc21 kV21 dc21 pm21 cd21 ct21 : Value} (a21 : PySem.W.nsIn K mainGlobals "_law_take" = some (some (.ref f21))) (l21 : K.lookup f21 = some ⟨oc21, od21, .func (PySem.W.fnOf "_law_take" "_law_take" (defArgs s_law_take) (defBody s_law_take) (defScope s_law_take) .none kV21 dc21 pm21 an21 cd21 ct21), sl21⟩) (c21 : PySem.W.codeIn K cd21 "_law_take" = true) (k21 : PySem.W.keepIn K (.ref f21) = true)
    {f22 : Addr} {od22 an22 : Option Addr} {sl22 : Array (Option Value)} {oc22 kV22 dc22 pm22 cd22 ct22 : Value} (a22 : PySem.W.nsIn K mainGlobals "_law_counts" = some (some (.ref f22))) (l22 : K.lookup f22 = some ⟨oc22, od22, .func (PySem.W.fnOf "_law_counts" "_law_counts" (defArgs s_law_counts) (defBody s_law_counts) (defScope s_law_counts) .none kV22 dc22 pm22 an22 cd22 ct22), sl22⟩) (c22 : PySem.W.codeIn K cd22 "_law_counts" = true) (k22 : PySem.W.keepIn K (.ref f22) = true)
    {f23 : Addr} {od23 an23 : Option Addr} {sl23 : Array (Option Value)} {oc23 kV23 dc23 pm23 cd23 ct23 : Value} (a23 : PySem.W.nsIn K mainGlobals "_law_hidden" = some (some (.ref f23))) (l23 : K.lookup f23 = some ⟨oc23, od23, .func (PySem.W.fnOf "_law_hidden" "_law_hidden" (defArgs s_law_hidden) (defBody s_law_hidden) (defScope s_law_hidden) .none kV23 dc23 pm23 an23 cd23 ct23), sl23⟩) (c23 : PySem.W.codeIn K cd23 "_law_hidden" = true) (k23 : PySem.W.keepIn K (.ref f23) = true)
    {f24 : Addr} {od24 an24 : Option Addr} {sl24 : Array (Option Value)} {oc24 kV24 dc24 pm24 cd24 ct24 : Value} (a24 : PySem.W.nsIn K mainGlobals "_law_ends" = some (some (.ref f24))) (l24 : K.lookup f24 = some ⟨oc24, od24, .func (PySem.W.fnOf "_law_ends" "_law_ends" (defArgs s_law_ends) (defBody s_law_ends) (defScope s_law_ends) .none kV24 dc24 pm24 an24 cd24 ct24), sl24⟩) (c24 : PySem.W.codeIn K cd24 "_law_ends" = true) (k24 : PySem.W.keepIn K (.ref f24) = true)
    {f25 : Addr} {od25 an25 : Option Addr} {sl25 : Array (Option Value)} {oc25 kV25 dc25 pm25 cd25 ct25 : Value} (a25 : PySem.W.nsIn K mainGlobals "_law_others" = some (some (.ref f25))) (l25 : K.lookup f25 = some ⟨oc25, od25, .func (PySem.W.fnOf "_law_others" "_law_others" (defArgs s_law_others) (defBody s_law_others) (defScope s_law_others) .none kV25 dc25 pm25 an25 cd25 ct25), sl25⟩) (c25 : PySem.W.codeIn K cd25 "_law_others" = true) (k25 : PySem.W.keepIn K (.ref f25) = true)
    {f26 : Addr} {od26 an26 : Option Addr} {sl26 : Array (Option Value)} {oc26 kV26 dc26 pm26 cd26 ct26 : Value} (a26 : PySem.W.nsIn K mainGlobals "_law_turned_right" = some (some (.ref f26))) (l26 : K.lookup f26 = some ⟨oc26, od26, .func (PySem.W.fnOf "_law_turned_right" "_law_turned_right" (defArgs s_law_turned_right) (defBody s_law_turned_right) (defScope s_law_turned_right) .none kV26 dc26 pm26 an26 cd26 ct26), sl26⟩) (c26 : PySem.W.codeIn K cd26 "_law_turned_right" = true) (k26 : PySem.W.keepIn K (.ref f26) = true)
    {f27 : Addr} {od27 an27 : Option Addr} {sl27 : Array (Option Value)} {oc27 kV27 dc27 pm27 cd27 ct27 : Value} (a27 : PySem.W.nsIn K mainGlobals "_law_more_right" = some (some (.ref f27))) (l27 : K.lookup f27 = some ⟨oc27, od27, .func (PySem.W.fnOf "_law_more_right" "_law_more_right" (defArgs s_law_more_right) (defBody s_law_more_right) (defScope s_law_more_right) .none kV27 dc27 pm27 an27 cd27 ct27), sl27⟩) (c27 : PySem.W.codeIn K cd27 "_law_more_right" = true) (k27 : PySem.W.keepIn K (.ref f27) = true)
    {f28 : Addr} {od28 an28 : Option Addr} {sl28 : Array (Option Value)} {oc28 kV28 dc28 pm28 cd28 ct28 : Value} (a28 : PySem.W.nsIn K mainGlobals "law" = some (some (.ref f28))) (l28 : K.lookup f28 = some ⟨oc28, od28, .func (PySem.W.fnOf "law" "law" (defArgs s_law) (defBody s_law) (defScope s_law) .none kV28 dc28 pm28 an28 cd28 ct28), sl28⟩) (c28 : PySem.W.codeIn K cd28 "law" = true) (k28 : PySem.W.keepIn K (.ref f28) = true)
    (z0 : PySem.W.nsIn K mainGlobals "len" = some none) (z1 : PySem.W.nsIn K mainGlobals "all" = some none) (z2 : PySem.W.nsIn K mainGlobals "isinstance" = some none) (z3 : PySem.W.nsIn K mainGlobals "tuple" = some none) (z4 : PySem.W.nsIn K mainGlobals "int" = some none) (z5 : PySem.W.nsIn K mainGlobals "bool" = some none) (z6 : PySem.W.nsIn K mainGlobals "list" = some none) (z7 : PySem.W.nsIn K mainGlobals "sum" = some none) (z8 : PySem.W.nsIn K mainGlobals "zip" = some none) (z9 : PySem.W.nsIn K mainGlobals "range" = some none) (z10 : PySem.W.nsIn K mainGlobals "min" = some none) (z11 : PySem.W.nsIn K mainGlobals "max" = some none) (z12 : PySem.W.nsIn K mainGlobals "sorted" = some none) (z13 : PySem.W.nsIn K mainGlobals "abs" = some none) (z14 : PySem.W.nsIn K mainGlobals "enumerate" = some none)
    (ml : PySem.W.nsIn K mainGlobals "MOST_LINES" = some (some (.int 6 mlt))) :
    ∃ fd : FuncData, (∀ (s : Shared) (v : Value), BindsTo s fd ⟨[v], []⟩ [("_law_script", v)]) ∧ ∀ base : Heap, K.In base → base.Ns mainGlobals mg → FnOk l.prog w K mg base CX0 10 fa fd ["_law_script"] (spLaw K) := by
  have e := hfa.symm.trans (PySem.W.mg_of X G a28)
  cases e
  have T : Tx0 K mg := ⟨PySem.W.mg_none_of X G z0, PySem.W.mg_none_of X G z1, PySem.W.mg_none_of X G z2, PySem.W.mg_none_of X G z3, PySem.W.mg_none_of X G z4, PySem.W.mg_none_of X G z5, PySem.W.mg_none_of X G z6, PySem.W.mg_none_of X G z7, PySem.W.mg_none_of X G z8, PySem.W.mg_none_of X G z9, PySem.W.mg_none_of X G z10, PySem.W.mg_none_of X G z11, PySem.W.mg_none_of X G z12, PySem.W.mg_none_of X G z13, PySem.W.mg_none_of X G z14, ⟨_, PySem.W.mg_of X G ml⟩, mc⟩
  refine ⟨PySem.W.fnOf "law" "law" (defArgs s_law) (defBody s_law) (defScope s_law) .none kV28 dc28 pm28 an28 cd28 ct28, fun s v => .of_eq rfl, fun base _ _ => ?_⟩
  have c_is_whole := ok_is_whole (P := l.prog) (w := w) (base := base) (mkFn (x := "is_whole") (st := s_is_whole) (ps := p_is_whole) X G a0 l0 c0 k0 fun _ _ _ _ _ _ us hl => match us, hl with | [_], _ => rfl) T
  have c_is_within := ok_is_within (P := l.prog) (w := w) (base := base) (mkFn (x := "is_within") (st := s_is_within) (ps := p_is_within) X G a1 l1 c1 k1 fun _ _ _ _ _ _ us hl => match us, hl with | [_, _, _], _ => rfl) T c_is_whole
  have c_are_counts := ok_are_counts (P := l.prog) (w := w) (base := base) (mkFn (x := "are_counts") (st := s_are_counts) (ps := p_are_counts) X G a2 l2 c2 k2 fun _ _ _ _ _ _ us hl => match us, hl with | [_], _ => rfl) T c_is_within
  have c_is_place := ok_is_place (P := l.prog) (w := w) (base := base) (mkFn (x := "is_place") (st := s_is_place) (ps := p_is_place) X G a3 l3 c3 k3 fun _ _ _ _ _ _ us hl => match us, hl with | [_, _], _ => rfl) T c_is_within
  have c_are_places := ok_are_places (P := l.prog) (w := w) (base := base) (mkFn (x := "are_places") (st := s_are_places) (ps := p_are_places) X G a4 l4 c4 k4 fun _ _ _ _ _ _ us hl => match us, hl with | [_, _], _ => rfl) T c_is_place
  have c_need_hidden := ok_need_hidden (P := l.prog) (w := w) (base := base) (mkFn (x := "need_hidden") (st := s_need_hidden) (ps := p_need_hidden) X G a5 l5 c5 k5 fun _ _ _ _ _ _ us hl => match us, hl with | [_, _], _ => rfl) T c_are_counts c_are_places
  have c_need_place := ok_need_place (P := l.prog) (w := w) (base := base) (mkFn (x := "need_place") (st := s_need_place) (ps := p_need_place) X G a6 l6 c6 k6 fun _ _ _ _ _ _ us hl => match us, hl with | [_, _, _], _ => rfl) T c_need_hidden c_is_place
  have c_steps_from := ok_steps_from (P := l.prog) (w := w) (base := base) (mkFn (x := "steps_from") (st := s_steps_from) (ps := p_steps_from) X G a7 l7 c7 k7 fun _ _ _ _ _ _ us hl => match us, hl with | [_, _, _], _ => rfl) T
  have c_reached_from := ok_reached_from (P := l.prog) (w := w) (base := base) (mkFn (x := "reached_from") (st := s_reached_from) (ps := p_reached_from) X G a8 l8 c8 k8 fun _ _ _ _ _ _ us hl => match us, hl with | [_, _, _], _ => rfl) T c_steps_from
  have c_road_to := ok_road_to (P := l.prog) (w := w) (base := base) (mkFn (x := "road_to") (st := s_road_to) (ps := p_road_to) X G a9 l9 c9 k9 fun _ _ _ _ _ _ us hl => match us, hl with | [_, _], _ => rfl) T
  have c_led_round := ok_led_round (P := l.prog) (w := w) (base := base) (mkFn (x := "led_round") (st := s_led_round) (ps := p_led_round) X G a10 l10 c10 k10 fun _ _ _ _ _ _ us hl => match us, hl with | [_, _, _, _], _ => rfl) T c_reached_from c_road_to
  have c_paper_of := ok_paper_of (P := l.prog) (w := w) (base := base) (mkFn (x := "paper_of") (st := s_paper_of) (ps := p_paper_of) X G a11 l11 c11 k11 fun _ _ _ _ _ _ us hl => match us, hl with | [_, _, _], _ => rfl) T
  have c_bounds_at := ok_bounds_at (P := l.prog) (w := w) (base := base) (mkFn (x := "bounds_at") (st := s_bounds_at) (ps := p_bounds_at) X G a12 l12 c12 k12 fun _ _ _ _ _ _ us hl => match us, hl with | [_, _, _], _ => rfl) T c_need_place c_led_round c_paper_of
  have c_left_of := ok_left_of (P := l.prog) (w := w) (base := base) (mkFn (x := "left_of") (st := s_left_of) (ps := p_left_of) X G a13 l13 c13 k13 fun _ _ _ _ _ _ us hl => match us, hl with | [_, _], _ => rfl) T
  have c_can_be := ok_can_be (P := l.prog) (w := w) (base := base) (mkFn (x := "can_be") (st := s_can_be) (ps := p_can_be) X G a14 l14 c14 k14 fun _ _ _ _ _ _ us hl => match us, hl with | [_, _, _], _ => rfl) T c_is_whole c_left_of
  have c_are_numbers := ok_are_numbers (P := l.prog) (w := w) (base := base) (mkFn (x := "are_numbers") (st := s_are_numbers) (ps := p_are_numbers) X G a15 l15 c15 k15 fun _ _ _ _ _ _ us hl => match us, hl with | [_, _], _ => rfl) T c_is_whole
  have c_is_paper := ok_is_paper (P := l.prog) (w := w) (base := base) (mkFn (x := "is_paper") (st := s_is_paper) (ps := p_is_paper) X G a16 l16 c16 k16 fun _ _ _ _ _ _ us hl => match us, hl with | [_, _, _, _, _, _], _ => rfl) T c_are_numbers c_left_of
  have c_is_bound := ok_is_bound (P := l.prog) (w := w) (base := base) (mkFn (x := "is_bound") (st := s_is_bound) (ps := p_is_bound) X G a17 l17 c17 k17 fun _ _ _ _ _ _ us hl => match us, hl with | [_, _, _, _, _], _ => rfl) T c_is_whole c_can_be c_is_paper
  have c_shows_bounds := ok_shows_bounds (P := l.prog) (w := w) (base := base) (mkFn (x := "shows_bounds") (st := s_shows_bounds) (ps := p_shows_bounds) X G a18 l18 c18 k18 fun _ _ _ _ _ _ us hl => match us, hl with | [_, _, _, _], _ => rfl) T c_need_place c_is_bound
  have c_given_away := ok_given_away (P := l.prog) (w := w) (base := base) (mkFn (x := "given_away") (st := s_given_away) (ps := p_given_away) X G a19 l19 c19 k19 fun _ _ _ _ _ _ us hl => match us, hl with | [_, _], _ => rfl) T c_need_hidden c_bounds_at
  have c_law_pot := ok_law_pot (P := l.prog) (w := w) (base := base) (mkFn (x := "_law_pot") (st := s_law_pot) (ps := p_law_pot) X G a20 l20 c20 k20 fun _ _ _ _ _ _ us hl => match us, hl with | [_, _], _ => rfl) T
  have c_law_take := ok_law_take (P := l.prog) (w := w) (base := base) (mkFn (x := "_law_take") (st := s_law_take) (ps := p_law_take) X G a21 l21 c21 k21 fun _ _ _ _ _ _ us hl => match us, hl with | [_, _], _ => rfl) T
  have c_law_counts := ok_law_counts (P := l.prog) (w := w) (base := base) (mkFn (x := "_law_counts") (st := s_law_counts) (ps := p_law_counts) X G a22 l22 c22 k22 fun _ _ _ _ _ _ us hl => match us, hl with | [_], _ => rfl) T c_law_take
  have c_law_hidden := ok_law_hidden (P := l.prog) (w := w) (base := base) (mkFn (x := "_law_hidden") (st := s_law_hidden) (ps := p_law_hidden) X G a23 l23 c23 k23 fun _ _ _ _ _ _ us hl => match us, hl with | [_, _], _ => rfl) T c_law_take
  have c_law_ends := ok_law_ends (P := l.prog) (w := w) (base := base) (mkFn (x := "_law_ends") (st := s_law_ends) (ps := p_law_ends) X G a24 l24 c24 k24 fun _ _ _ _ _ _ us hl => match us, hl with | [_, _, _], _ => rfl) T c_bounds_at
  have c_law_others := ok_law_others (P := l.prog) (w := w) (base := base) (mkFn (x := "_law_others") (st := s_law_others) (ps := p_law_others) X G a25 l25 c25 k25 fun _ _ _ _ _ _ us hl => match us, hl with | [_, _, _], _ => rfl) T c_law_take
  have c_law_turned_right := ok_law_turned_right (P := l.prog) (w := w) (base := base) (mkFn (x := "_law_turned_right") (st := s_law_turned_right) (ps := p_law_turned_right) X G a26 l26 c26 k26 fun _ _ _ _ _ _ us hl => match us, hl with | [_, _, _, _, _, _], _ => rfl) T c_law_take c_law_ends c_given_away
  have c_law_more_right := ok_law_more_right (P := l.prog) (w := w) (base := base) (mkFn (x := "_law_more_right") (st := s_law_more_right) (ps := p_law_more_right) X G a27 l27 c27 k27 fun _ _ _ _ _ _ us hl => match us, hl with | [_, _, _, _, _, _], _ => rfl) T c_law_take c_law_ends c_given_away
  exact ok_law (fun_mk (st := s_law) l28 c28 k28) T c_law_pot c_law_take c_law_counts c_law_hidden c_bounds_at c_shows_bounds c_given_away c_law_ends c_law_others c_law_turned_right c_law_more_right
theorem walk {l : PySem.W.OpenLaw} {q : Program} {loose : List Str} {YP : World → Heap → Prop} {d : DefRec} {K : Params → PySem.W.Frag} (hn : l.most = some 63) (hdf : d.params.defaults = [])
    (hY : ∀ (w : World) (h : Heap), YP w h → (K w.params).In h)
    (F : ∀ (w : World) (mg : Str → Option Value) (fa : Addr) (h : Heap), (K w.params).In h → h.Ns mainGlobals mg → mg d.name = some (.ref fa) → (∃ t, mg "MOST_COUNT" = some (.int 1000000000 t)) →
      ∃ fd : FuncData, (∀ (s : Shared) (u : Value), BindsTo s fd ⟨[u], []⟩ [("_law_script", u)]) ∧ ∀ base : Heap, (K w.params).In base → base.Ns mainGlobals mg → FnOk l.prog w (K w.params) mg base CX0 10 fa fd ["_law_script"] (spLaw (K w.params))) :
    PySem.W.WalkO q loose (PySem.W.XL q [("MOST_COUNT", .int 1000000000)]) YP l.row.toRowW d [] (fun f vs => PySem.call f vs) := by
  refine Att.attach_call hn hdf fun w s₀ s₁ mg mb fa o pm cd doc a vs ns G Y ho hd hcd hmg hobj hints hlen hg => ?_
  have KX := hY w _ Y
  have mc : ∃ t, mg "MOST_COUNT" = some (.int 1000000000 t) := by
    obtain ⟨v, h1, h2⟩ := G.X.2.val ("MOST_COUNT", .int 1000000000) (List.mem_singleton.mpr rfl)
    cases h2
    exact ⟨_, h1⟩
  obtain ⟨fd, hb, hF⟩ := F w mg fa _ KX G.T.g hmg mc
  exact law_call KX G.T.g G.T.b G.T.builtins G.T.nolimit hg hobj hints (Nat.le_trans hlen (by decide)) ⟨rfl, by decide, by decide⟩ hF hb (fun H _ hS => ⟨a, ns, rfl, hS, hlen, fun _ => rfl⟩) fun _ _ _ z => z
end Ak
open PySem PySem.W PyProof.Rows in
set_option maxRecDepth 100000 in
set_option maxHeartbeats 0 in
theorem PySem.Challenge.cw_askround_k73_whole_hidden_counts_holds : PySem.Challenge.rw_askround_k73_whole_hidden_counts.Holds := by
  w_on; o_law; k_head; (case hw => w_witness2)
  k_fill
  refine Ak.walk (l := PySem.Challenge.rw_askround_k73_whole_hidden_counts) rfl rfl (fun w h Y => PySem.W.kIn_of Y) ?F
  case F =>
    intro w mg fa h KX G hmg mc
    refine' Ak.all_mk KX G hmg mc ?a0 ?l0 ?c0 ?k0 ?a1 ?l1 ?c1 ?k1 ?a2 ?l2 ?c2 ?k2 ?a3 ?l3 ?c3 ?k3 ?a4 ?l4 ?c4 ?k4 ?a5 ?l5 ?c5 ?k5 ?a6 ?l6 ?c6 ?k6 ?a7 ?l7 ?c7 ?k7 ?a8 ?l8 ?c8 ?k8 ?a9 ?l9 ?c9 ?k9 ?a10 ?l10 ?c10 ?k10 ?a11 ?l11 ?c11 ?k11 ?a12 ?l12 ?c12 ?k12 ?a13 ?l13 ?c13 ?k13 ?a14 ?l14 ?c14 ?k14 ?a15 ?l15 ?c15 ?k15 ?a16 ?l16 ?c16 ?k16 ?a17 ?l17 ?c17 ?k17 ?a18 ?l18 ?c18 ?k18 ?a19 ?l19 ?c19 ?k19 ?a20 ?l20 ?c20 ?k20 ?a21 ?l21 ?c21 ?k21 ?a22 ?l22 ?c22 ?k22 ?a23 ?l23 ?c23 ?k23 ?a24 ?l24 ?c24 ?k24 ?a25 ?l25 ?c25 ?k25 ?a26 ?l26 ?c26 ?k26 ?a27 ?l27 ?c27 ?k27 ?a28 ?l28 ?c28 ?k28 ?z0 ?z1 ?z2 ?z3 ?z4 ?z5 ?z6 ?z7 ?z8 ?z9 ?z10 ?z11 ?z12 ?z13 ?z14 ?ml
    (case a0 => k_is)
    (case l0 => k_is)
    (case c0 => k_is)
    (case k0 => k_is)
    (case a1 => k_is)
    (case l1 => k_is)
    (case c1 => k_is)
    (case k1 => k_is)
    (case a2 => k_is)
    (case l2 => k_is)
    (case c2 => k_is)
    (case k2 => k_is)
    (case a3 => k_is)
    (case l3 => k_is)
    (case c3 => k_is)
    (case k3 => k_is)
    (case a4 => k_is)
    (case l4 => k_is)
    (case c4 => k_is)
    (case k4 => k_is)
    (case a5 => k_is)
    (case l5 => k_is)
    (case c5 => k_is)
    (case k5 => k_is)
    (case a6 => k_is)
    (case l6 => k_is)
    (case c6 => k_is)
    (case k6 => k_is)
    (case a7 => k_is)
    (case l7 => k_is)
    (case c7 => k_is)
    (case k7 => k_is)
    (case a8 => k_is)
    (case l8 => k_is)
    (case c8 => k_is)
    (case k8 => k_is)
    (case a9 => k_is)
    (case l9 => k_is)
    (case c9 => k_is)
    (case k9 => k_is)
    (case a10 => k_is)
    (case l10 => k_is)
    (case c10 => k_is)
    (case k10 => k_is)
    (case a11 => k_is)
    (case l11 => k_is)
    (case c11 => k_is)
    (case k11 => k_is)
    (case a12 => k_is)
    (case l12 => k_is)
    (case c12 => k_is)
    (case k12 => k_is)
    (case a13 => k_is)
    (case l13 => k_is)
    (case c13 => k_is)
    (case k13 => k_is)
    (case a14 => k_is)
    (case l14 => k_is)
    (case c14 => k_is)
    (case k14 => k_is)
    (case a15 => k_is)
    (case l15 => k_is)
    (case c15 => k_is)
    (case k15 => k_is)
    (case a16 => k_is)
    (case l16 => k_is)
    (case c16 => k_is)
    (case k16 => k_is)
    (case a17 => k_is)
    (case l17 => k_is)
    (case c17 => k_is)
    (case k17 => k_is)
    (case a18 => k_is)
    (case l18 => k_is)
    (case c18 => k_is)
    (case k18 => k_is)
    (case a19 => k_is)
    (case l19 => k_is)
    (case c19 => k_is)
    (case k19 => k_is)
    (case a20 => k_is)
    (case l20 => k_is)
    (case c20 => k_is)
    (case k20 => k_is)
    (case a21 => k_is)
    (case l21 => k_is)
    (case c21 => k_is)
    (case k21 => k_is)
    (case a22 => k_is)
    (case l22 => k_is)
    (case c22 => k_is)
    (case k22 => k_is)
    (case a23 => k_is)
    (case l23 => k_is)
    (case c23 => k_is)
    (case k23 => k_is)
    (case a24 => k_is)
    (case l24 => k_is)
    (case c24 => k_is)
    (case k24 => k_is)
    (case a25 => k_is)
    (case l25 => k_is)
    (case c25 => k_is)
    (case k25 => k_is)
    (case a26 => k_is)
    (case l26 => k_is)
    (case c26 => k_is)
    (case k26 => k_is)
    (case a27 => k_is)
    (case l27 => k_is)
    (case c27 => k_is)
    (case k27 => k_is)
    (case a28 => k_is)
    (case l28 => k_is)
    (case c28 => k_is)
    (case k28 => k_is)
    (case z0 => k_is)
    (case z1 => k_is)
    (case z2 => k_is)
    (case z3 => k_is)
    (case z4 => k_is)
    (case z5 => k_is)
    (case z6 => k_is)
    (case z7 => k_is)
    (case z8 => k_is)
    (case z9 => k_is)
    (case z10 => k_is)
    (case z11 => k_is)
    (case z12 => k_is)
    (case z13 => k_is)
    (case z14 => k_is)
    (case ml => k_is)
