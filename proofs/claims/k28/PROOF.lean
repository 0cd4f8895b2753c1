import PyProof.Rows.All
import Wide.All
import OpenK.AllK
import Wide.FinOn
import HandS.ForMost
import HandS.Evl
import HandS.TupAny
import HandS.Deep
import HandS.Style
import HandS.TupMul
import HandS.IsInst
import HandS.Conv
import KE.SortData
import KE.DataMinMax
import KE.DataEq
import HandS.TupSets
import KE.KeyNested
import PySem.Challenge.RW_widecells_k28_whole_beats_that_begin_wit
set_option Elab.async false
set_option linter.all false
set_option maxRecDepth 100000
set_option maxHeartbeats 4000000
set_option autoImplicit false
/-! Data over the hand layer: what an expression, a statement, a def computes, as a plain function of plain data. -/
namespace Wd
open PySem L2
abbrev D := PyData
abbrev Ex := Evl.Ex

/-! ### data in the heap -/
mutual
inductive Da (H : Hp) : V → D → Prop
  | non : Da H .non .none
  | bl (b : Bool) : Da H (.bl b) (.bool b)
  | int (i : Int) : Da H (.int i) (.int i)
  | str (x : Str) : Da H (.str x) (.str x)
  | lst {a : Addr} {vs : List V} {ds : List D} : H a = some (.lst vs) → DaAll H vs ds → Da H (.ref a) (.list ds)
  | tup {a : Addr} {vs : List V} {ds : List D} : H a = some (.tup vs) → DaAll H vs ds → Da H (.ref a) (.tuple ds)
inductive DaAll (H : Hp) : List V → List D → Prop
  | nil : DaAll H [] []
  | cons {v : V} {vs : List V} {d : D} {ds : List D} : Da H v d → DaAll H vs ds → DaAll H (v :: vs) (d :: ds)
end
mutual
theorem Da.mono {H H' : Hp} (e : Ex H H') : ∀ (d : D) (v : V), Da H v d → Da H' v d
  | .none, _, h => by cases h; exact .non
  | .bool b, _, h => by cases h; exact .bl b
  | .int i, _, h => by cases h; exact .int i
  | .str x, _, h => by cases h; exact .str x
  | .list ds, _, h => by
    cases h with
    | lst ha hs => exact .lst (e _ _ ha) (DaAll.mono e ds _ hs)
  | .tuple ds, _, h => by
    cases h with
    | tup ha hs => exact .tup (e _ _ ha) (DaAll.mono e ds _ hs)
  | .dict _, _, h => nomatch h
theorem DaAll.mono {H H' : Hp} (e : Ex H H') : ∀ (ds : List D) (vs : List V), DaAll H vs ds → DaAll H' vs ds
  | [], _, h => by cases h; exact .nil
  | d :: ds, _, h => by
    cases h with
    | cons h1 h2 => exact .cons (Da.mono e d _ h1) (DaAll.mono e ds _ h2)
end
mutual
theorem Da.dp (K : PySem.W.Frag) {H : Hp} : ∀ (d : D) (v : V), Da H v d → Dp K H v d
  | .none, _, h => by cases h; exact .non
  | .bool b, _, h => by cases h; exact .bl b
  | .int i, _, h => by cases h; exact .int i
  | .str x, _, h => by cases h; exact .str x
  | .list ds, _, h => by
    cases h with
    | lst ha hs => exact .lst (SqL.of ha) (DaAll.dp K ds _ hs)
  | .tuple ds, _, h => by
    cases h with
    | tup ha hs => exact .tup (SqT.of ha) (DaAll.dp K ds _ hs)
  | .dict _, _, h => nomatch h
theorem DaAll.dp (K : PySem.W.Frag) {H : Hp} : ∀ (ds : List D) (vs : List V), DaAll H vs ds → DpAll K H vs ds
  | [], _, h => by cases h; exact .nil
  | d :: ds, _, h => by
    cases h with
    | cons h1 h2 => exact .cons (Da.dp K d _ h1) (DaAll.dp K ds _ h2)
end
/-! only ints, bools, texts, None, tuples of such -/
mutual
def lf : D → Bool
  | .none => true
  | .bool _ => true
  | .int _ => true
  | .str _ => true
  | .tuple ds => lfAll ds
  | _ => false
def lfAll : List D → Bool
  | [] => true
  | d :: ds => lf d && lfAll ds
end
section
variable {H H' : Hp} {v : V} {vs ws : List V} {d : D} {ds es : List D}
theorem DaAll.length : ∀ {vs : List V} {ds : List D}, DaAll H vs ds → vs.length = ds.length
  | _, _, .nil => rfl
  | _, _, .cons _ t => by rw [List.length_cons, List.length_cons, DaAll.length t]
theorem DaAll.append : ∀ {vs ws : List V} {ds es : List D}, DaAll H vs ds → DaAll H ws es → DaAll H (vs ++ ws) (ds ++ es)
  | _, _, _, _, .nil, s => s
  | _, _, _, _, .cons h t, s => .cons h (DaAll.append t s)
theorem DaAll.snoc (h : DaAll H vs ds) (x : Da H v d) : DaAll H (vs ++ [v]) (ds ++ [d]) := h.append (.cons x .nil)
theorem DaAll.get : ∀ {vs : List V} {ds : List D} {i : Nat} {d : D}, DaAll H vs ds → ds[i]? = some d → ∃ v, vs[i]? = some v ∧ Da H v d
  | _, _, _, _, .nil, e => by simp at e
  | _, _, 0, _, .cons h _, e => by
    obtain rfl := Option.some.inj e
    exact ⟨_, rfl, h⟩
  | _, _, i + 1, _, .cons _ t, e => DaAll.get (i := i) t e
theorem DaAll.take : ∀ (n : Nat) {vs : List V} {ds : List D}, DaAll H vs ds → DaAll H (vs.take n) (ds.take n)
  | 0, _, _, _ => .nil
  | _ + 1, _, _, .nil => .nil
  | n + 1, _, _, .cons h t => .cons h (DaAll.take n t)
theorem DaAll.drop : ∀ (n : Nat) {vs : List V} {ds : List D}, DaAll H vs ds → DaAll H (vs.drop n) (ds.drop n)
  | 0, _, _, r => r
  | _ + 1, _, _, .nil => .nil
  | n + 1, _, _, .cons _ t => DaAll.drop n t
theorem DaAll.reverse (h : DaAll H vs ds) : DaAll H vs.reverse ds.reverse := by
  induction vs generalizing ds with
  | nil => cases h; exact .nil
  | cons v vs ih =>
    cases h with
    | cons h1 h2 =>
      rw [List.reverse_cons, List.reverse_cons]
      exact (ih h2).snoc h1
theorem DaAll.set {x : V} {y : D} (q : Da H x y) : ∀ (i : Nat) {vs : List V} {ds : List D}, DaAll H vs ds → DaAll H (vs.set i x) (ds.set i y)
  | _, _, _, .nil => .nil
  | 0, _, _, .cons _ t => .cons q t
  | i + 1, _, _, .cons h t => .cons h (DaAll.set q i t)
end

/-! ### the heap without what is owned -/
open Classical in
noncomputable def cut (H : Hp) (S : Addr → Prop) : Hp := fun a => if S a then none else H a
def Alive (S : Addr → Prop) (H : Hp) : Prop := ∀ a, S a → (∃ xs, H a = some (.lst xs)) ∨ ∃ kvs, H a = some (.dT kvs)
section
variable {H H' : Hp} {S S' : Addr → Prop} {a p : Addr} {o : HO}
theorem cut_some (h : cut H S a = some o) : ¬ S a ∧ H a = some o := by
  unfold cut at h
  by_cases q : S a
  · rw [if_pos q] at h; cases h
  · rw [if_neg q] at h; exact ⟨q, h⟩
theorem cut_of (q : ¬ S a) (h : H a = some o) : cut H S a = some o := by
  unfold cut; rw [if_neg q]; exact h
theorem cut_ex : Ex (cut H S) H := fun _ _ h => (cut_some h).2
theorem cut_mono (e : Ex H H') : Ex (cut H S) (cut H' S) := fun a o h => cut_of (cut_some h).1 (e a o (cut_some h).2)
theorem cut_less (h : ∀ a, S' a → S a) : Ex (cut H S) (cut H S') := fun a o q => cut_of (fun z => (cut_some q).1 (h a z)) (cut_some q).2
theorem cut_new (hp : H p = none) (e : Ex H H') : Ex (cut H S) (cut H' fun a => S a ∨ a = p) := fun a o q => by
  obtain ⟨q1, q2⟩ := cut_some q
  refine cut_of (fun z => ?_) (e a o q2)
  rcases z with z | z
  · exact q1 z
  · rw [z, hp] at q2; cases q2
theorem cut_upd (hp : S p) : cut (upd H p o) S = cut H S := by
  funext a
  unfold cut
  by_cases q : S a
  · rw [if_pos q, if_pos q]
  · rw [if_neg q, if_neg q]
    exact upd_ne fun z => q (z ▸ hp)
theorem Alive.mono (e : Ex H H') (h : Alive S H) : Alive S H' := fun a q => by
  rcases h a q with ⟨xs, z⟩ | ⟨xs, z⟩
  · exact .inl ⟨xs, e _ _ z⟩
  · exact .inr ⟨xs, e _ _ z⟩
theorem Alive.add {xs : List V} (e : Ex H H') (h : Alive S H) (hp : H' p = some (.lst xs)) : Alive (fun a => S a ∨ a = p) H' := fun a q => by
  rcases q with q | q
  · exact h.mono e a q
  · rw [q]; exact .inl ⟨xs, hp⟩
theorem Alive.there (h : Alive S H) (hp : H p = none) : ¬ S p := fun q => by
  rcases h p q with ⟨xs, z⟩ | ⟨xs, z⟩ <;> (rw [hp] at z; cases z)
end
/-! data without lists can't reach what is owned -/
mutual
theorem Da.lf {H : Hp} {S S' : Addr → Prop} (al : Alive S H) : ∀ (d : D) (v : V), Wd.lf d = true → Da (cut H S') v d → Da (cut H S) v d
  | .none, _, _, h => by cases h; exact .non
  | .bool b, _, _, h => by cases h; exact .bl b
  | .int i, _, _, h => by cases h; exact .int i
  | .str x, _, _, h => by cases h; exact .str x
  | .list ds, _, l, h => by cases l
  | .tuple ds, _, l, h => by
    cases h with
    | tup ha hs =>
      refine .tup (cut_of (fun z => ?_) (cut_some ha).2) (DaAll.lf al ds _ l hs)
      have q := (cut_some ha).2
      rcases al _ z with ⟨xs, e⟩ | ⟨xs, e⟩ <;> (rw [q] at e; cases e)
  | .dict _, _, _, h => nomatch h
theorem DaAll.lf {H : Hp} {S S' : Addr → Prop} (al : Alive S H) : ∀ (ds : List D) (vs : List V), Wd.lfAll ds = true → DaAll (cut H S') vs ds → DaAll (cut H S) vs ds
  | [], _, _, h => by cases h; exact .nil
  | d :: ds, _, l, h => by
    cases h with
    | cons h1 h2 =>
      have l' : (Wd.lf d && Wd.lfAll ds) = true := l
      rw [Bool.and_eq_true] at l'
      exact .cons (Da.lf al d _ l'.1 h1) (DaAll.lf al ds _ l'.2 h2)
end

/-! ### what stands in the slots -/
inductive Cell where
  /-- data that nobody changes -/
  | dat (d : D)
  /-- a list of one's own that grows -/
  | own (ds : List D)
  /-- a dict of one's own whose keys are tuples -/
  | dic (kvs : List (List Key × D))
  /-- a list at a known place that changes -/
  | pin (p : Addr) (ds : List D)
abbrev Env := List (Option Cell)
def Cell.mine : Cell → Bool
  | .dat _ => false
  | _ => true
def CellOk (N S : Addr → Prop) (H : Hp) (v : V) : Cell → Prop
  | .dat d => Da (cut H S) v d
  | .own ds => ∃ p vs, v = .ref p ∧ S p ∧ ¬ N p ∧ H p = some (.lst vs) ∧ DaAll (cut H S) vs ds
  | .dic kvs => ∃ p vs, v = .ref p ∧ S p ∧ ¬ N p ∧ H p = some (.dT vs) ∧ vs.map (·.1) = kvs.map (·.1) ∧ DaAll (cut H S) (vs.map (·.2)) (kvs.map (·.2))
  | .pin p ds => ∃ vs, v = .ref p ∧ S p ∧ ¬ N p ∧ H p = some (.lst vs) ∧ DaAll (cut H S) vs ds
structure RelE (N S : Addr → Prop) (H : Hp) (σ : L2.St) (ρ : Env) : Prop where
  len : σ.length = ρ.length
  cell : ∀ (i : Nat) (c : Cell), ρ[i]? = some (some c) → ∃ v, σ[i]? = some (some v) ∧ CellOk N S H v c
  al : Alive S H
  sub : ∀ a, N a → S a
  sep : ∀ (i j : Nat) (ci cj : Cell) (a : Addr), i ≠ j → ρ[i]? = some (some ci) → ρ[j]? = some (some cj) → ci.mine = true → cj.mine = true → σ[i]? = some (some (.ref a)) → σ[j]? = some (some (.ref a)) → False
section
variable {N S : Addr → Prop} {H H' : Hp} {σ : L2.St} {ρ : Env} {v : V} {c : Cell} {d : D} {i : Nat}
theorem CellOk.mono (e : Ex H H') (h : CellOk N S H v c) : CellOk N S H' v c := by
  cases c with
  | dat d => exact Da.mono (cut_mono e) d v h
  | own ds =>
    obtain ⟨p, vs, e1, h1, h2, h3, h4⟩ := h
    exact ⟨p, vs, e1, h1, h2, e _ _ h3, DaAll.mono (cut_mono e) _ _ h4⟩
  | dic kvs =>
    obtain ⟨p, vs, e1, h1, h2, h3, hk, h4⟩ := h
    exact ⟨p, vs, e1, h1, h2, e _ _ h3, hk, DaAll.mono (cut_mono e) _ _ h4⟩
  | pin p ds =>
    obtain ⟨vs, e1, h1, h2, h3, h4⟩ := h
    exact ⟨vs, e1, h1, h2, e _ _ h3, DaAll.mono (cut_mono e) _ _ h4⟩
theorem RelE.mono (e : Ex H H') (h : RelE N S H σ ρ) : RelE N S H' σ ρ :=
  ⟨h.len, fun i c q => let ⟨v, a, b⟩ := h.cell i c q; ⟨v, a, b.mono e⟩, h.al.mono e, h.sub, h.sep⟩
/-- something of one's own is made -/
theorem CellOk.new {p : Addr} (hp : H p = none) (e : Ex H H') (h : CellOk N S H v c) : CellOk N (fun a => S a ∨ a = p) H' v c := by
  have m : Ex (cut H S) (cut H' fun a => S a ∨ a = p) := cut_new hp e
  cases c with
  | dat d => exact Da.mono m d v h
  | own ds =>
    obtain ⟨q, vs, e1, h1, h2, h3, h4⟩ := h
    exact ⟨q, vs, e1, .inl h1, h2, e _ _ h3, DaAll.mono m _ _ h4⟩
  | dic kvs =>
    obtain ⟨q, vs, e1, h1, h2, h3, hk, h4⟩ := h
    exact ⟨q, vs, e1, .inl h1, h2, e _ _ h3, hk, DaAll.mono m _ _ h4⟩
  | pin q ds =>
    obtain ⟨vs, e1, h1, h2, h3, h4⟩ := h
    exact ⟨vs, e1, .inl h1, h2, e _ _ h3, DaAll.mono m _ _ h4⟩
theorem RelE.new {p : Addr} {xs : List V} (hp : H p = none) (hx : H' p = some (.lst xs)) (e : Ex H H') (h : RelE N S H σ ρ) : RelE N (fun a => S a ∨ a = p) H' σ ρ :=
  ⟨h.len, fun i c q => let ⟨v, a, b⟩ := h.cell i c q; ⟨v, a, b.new hp e⟩, h.al.add e hx, fun a q => .inl (h.sub a q), h.sep⟩
theorem RelE.lt (h : RelE N S H σ ρ) (q : ρ[i]? = some (some c)) : i < ρ.length := (List.getElem?_eq_some_iff.mp q).1
/-- a slot is stored -/
theorem RelE.set (h : RelE N S H σ ρ) (q : Da (cut H S) v d) : RelE N S H (σ.set i (some v)) (ρ.set i (some (.dat d))) := by
  refine ⟨by rw [List.length_set, List.length_set]; exact h.len, fun j c e => ?_, h.al, h.sub, fun j k cj ck a n ej ek mj mk sj sk => ?_⟩
  · by_cases z : i = j
    · subst z
      have hi : i < ρ.length := by have := (List.getElem?_eq_some_iff.mp e).1; rw [List.length_set] at this; exact this
      rw [List.getElem?_set_self hi] at e
      obtain rfl := Option.some.inj (Option.some.inj e)
      exact ⟨v, List.getElem?_set_self (by rw [h.len]; exact hi), q⟩
    · rw [List.getElem?_set_ne z] at e
      rw [List.getElem?_set_ne z]
      exact h.cell j c e
  · have f : ∀ {m : Nat} {cm : Cell}, (ρ.set i (some (.dat d)))[m]? = some (some cm) → cm.mine = true → i ≠ m := fun {m cm} em mm z => by
      subst z
      have hi : i < ρ.length := by have := (List.getElem?_eq_some_iff.mp em).1; rw [List.length_set] at this; exact this
      rw [List.getElem?_set_self hi] at em
      obtain rfl := Option.some.inj (Option.some.inj em)
      cases mm
    have z1 := f ej mj
    have z2 := f ek mk
    rw [List.getElem?_set_ne z1] at ej sj
    rw [List.getElem?_set_ne z2] at ek sk
    exact h.sep j k cj ck a n ej ek mj mk sj sk
/-- a slot is stored: something of one's own, just made -/
theorem RelE.setNew {p : Addr} {xs : List V} {c1 : Cell} (h : RelE N S H σ ρ) (hp : H p = none) (e : Ex H H') (hx : H' p = some (.lst xs)) (ok1 : CellOk N (fun a => S a ∨ a = p) H' (.ref p) c1) :
    RelE N (fun a => S a ∨ a = p) H' (σ.set i (some (.ref p))) (ρ.set i (some c1)) := by
  have h' := h.new hp hx e
  have np : ¬ N p := fun z => h.al.there hp (h.sub p z)
  -- p stands in no slot of one's own
  have nop : ∀ {m : Nat} {cm : Cell}, ρ[m]? = some (some cm) → cm.mine = true → σ[m]? = some (some (.ref p)) → False := fun {m cm} em mm sm => by
    obtain ⟨v, a, b⟩ := h.cell m cm em
    rw [sm] at a
    obtain rfl := Option.some.inj (Option.some.inj a)
    cases cm with
    | dat d => cases mm
    | own ds' =>
      obtain ⟨q, vs, e1, h1, _⟩ := b
      cases e1
      exact h.al.there hp h1
    | dic kvs =>
      obtain ⟨q, vs, e1, h1, _⟩ := b
      cases e1
      exact h.al.there hp h1
    | pin q ds'' =>
      obtain ⟨vs, e1, h1, _⟩ := b
      cases e1
      exact h.al.there hp h1
  refine ⟨by rw [List.length_set, List.length_set]; exact h.len, fun j c e => ?_, h'.al, h'.sub, fun j k cj ck a n ej ek mj mk sj sk => ?_⟩
  · by_cases z : i = j
    · subst z
      have hi : i < ρ.length := by have := (List.getElem?_eq_some_iff.mp e).1; rw [List.length_set] at this; exact this
      rw [List.getElem?_set_self hi] at e
      obtain rfl := Option.some.inj (Option.some.inj e)
      exact ⟨_, List.getElem?_set_self (by rw [h.len]; exact hi), ok1⟩
    · rw [List.getElem?_set_ne z] at e
      rw [List.getElem?_set_ne z]
      exact h'.cell j c e
  · by_cases z1 : i = j
    · subst z1
      have hi : i < σ.length := by have := (List.getElem?_eq_some_iff.mp sj).1; rw [List.length_set] at this; exact this
      rw [List.getElem?_set_self hi] at sj
      have ea : p = a := by
        have := Option.some.inj (Option.some.inj sj)
        injection this
      subst ea
      rw [List.getElem?_set_ne n] at ek sk
      exact nop ek mk sk
    · rw [List.getElem?_set_ne z1] at ej sj
      by_cases z2 : i = k
      · subst z2
        have hi : i < σ.length := by have := (List.getElem?_eq_some_iff.mp sk).1; rw [List.length_set] at this; exact this
        rw [List.getElem?_set_self hi] at sk
        have ea : p = a := by
          have := Option.some.inj (Option.some.inj sk)
          injection this
        subst ea
        exact nop ej mj sj
      · rw [List.getElem?_set_ne z2] at ek sk
        exact h.sep j k cj ck a n ej ek mj mk sj sk
theorem RelE.setOwn {p : Addr} {xs : List V} {ds : List D} (h : RelE N S H σ ρ) (hp : H p = none) (e : Ex H H') (hx : H' p = some (.lst xs)) (q : DaAll (cut H' fun a => S a ∨ a = p) xs ds) :
    RelE N (fun a => S a ∨ a = p) H' (σ.set i (some (.ref p))) (ρ.set i (some (.own ds))) :=
  h.setNew hp e hx ⟨p, xs, rfl, .inr rfl, fun z => h.al.there hp (h.sub p z), hx, q⟩
theorem RelE.setPin {p : Addr} {xs : List V} {ds : List D} (h : RelE N S H σ ρ) (hp : H p = none) (e : Ex H H') (hx : H' p = some (.lst xs)) (q : DaAll (cut H' fun a => S a ∨ a = p) xs ds) :
    RelE N (fun a => S a ∨ a = p) H' (σ.set i (some (.ref p))) (ρ.set i (some (.pin p ds))) :=
  h.setNew hp e hx ⟨xs, rfl, .inr rfl, fun z => h.al.there hp (h.sub p z), hx, q⟩
/-- what is one's own is changed -/
theorem RelE.putC {p : Addr} {xs : List V} {c0 c1 : Cell} (h : RelE N S H σ ρ) (hi : ρ[i]? = some (some c0)) (m0 : c0.mine = true) (si : σ[i]? = some (some (.ref p))) (sp : S p) (hH : ∀ a o, a ≠ p → H a = some o → H' a = some o) (hp' : H' p = some (.lst xs)) (ok1 : CellOk N S H' (.ref p) c1) :
    RelE N S H' σ (ρ.set i (some c1)) := by
  have hil : i < ρ.length := (List.getElem?_eq_some_iff.mp hi).1
  have ec : Ex (cut H S) (cut H' S) := fun a o q => by
    obtain ⟨q1, q2⟩ := cut_some q
    exact cut_of q1 (hH a o (fun z => q1 (z ▸ sp)) q2)
  refine ⟨by rw [List.length_set]; exact h.len, fun j c e => ?_, fun b hb => ?_, h.sub, fun j k cj ck b n ej ek mj mk sj sk => ?_⟩
  · by_cases z : i = j
    · subst z
      rw [List.getElem?_set_self hil] at e
      obtain rfl := Option.some.inj (Option.some.inj e)
      exact ⟨_, si, ok1⟩
    · rw [List.getElem?_set_ne z] at e
      obtain ⟨w, sw, ok⟩ := h.cell j c e
      refine ⟨w, sw, ?_⟩
      cases c with
      | dat d => exact Da.mono ec _ _ ok
      | own es =>
        obtain ⟨b, ws, e1, h1, h2, h3, h4⟩ := ok
        subst e1
        refine ⟨b, ws, rfl, h1, h2, hH _ _ ?_ h3, DaAll.mono ec _ _ h4⟩
        · rintro rfl
          exact h.sep i j _ _ _ z hi e m0 rfl si sw
      | dic kvs =>
        obtain ⟨b, ws, e1, h1, h2, h3, hk, h4⟩ := ok
        subst e1
        refine ⟨b, ws, rfl, h1, h2, hH _ _ ?_ h3, hk, DaAll.mono ec _ _ h4⟩
        · rintro rfl
          exact h.sep i j _ _ _ z hi e m0 rfl si sw
      | pin b es =>
        obtain ⟨ws, e1, h1, h2, h3, h4⟩ := ok
        subst e1
        refine ⟨ws, rfl, h1, h2, hH _ _ ?_ h3, DaAll.mono ec _ _ h4⟩
        · rintro rfl
          exact h.sep i j _ _ _ z hi e m0 rfl si sw
  · by_cases z : b = p
    · subst z; exact .inl ⟨xs, hp'⟩
    · rcases h.al b hb with ⟨ys, q⟩ | ⟨ys, q⟩
      · exact .inl ⟨ys, hH _ _ z q⟩
      · exact .inr ⟨ys, hH _ _ z q⟩
  · have f : ∀ {m : Nat} {cm : Cell}, (ρ.set i (some c1))[m]? = some (some cm) → cm.mine = true → ∃ c', ρ[m]? = some (some c') ∧ c'.mine = true := fun {m cm} em mm => by
      by_cases z : i = m
      · subst z; exact ⟨_, hi, m0⟩
      · rw [List.getElem?_set_ne z] at em; exact ⟨cm, em, mm⟩
    obtain ⟨c1, q1, m1⟩ := f ej mj
    obtain ⟨c2, q2, m2⟩ := f ek mk
    exact h.sep j k c1 c2 b n q1 q2 m1 m2 sj sk
theorem RelE.put {p : Addr} {xs : List V} {ds ds0 : List D} (h : RelE N S H σ ρ) (hi : ρ[i]? = some (some (.own ds0))) (si : σ[i]? = some (some (.ref p))) (q : DaAll (cut H S) xs ds) :
    RelE N S (upd H p (.lst xs)) σ (ρ.set i (some (.own ds))) := by
  obtain ⟨v, a, p', vs, ev, sp, np, hp, hv⟩ := h.cell i _ hi
  rw [si] at a
  obtain rfl := Option.some.inj (Option.some.inj a)
  cases ev
  exact h.putC hi rfl si sp (fun b o z q => by rw [upd_ne z]; exact q) upd_same ⟨p, xs, rfl, sp, np, upd_same, by rw [cut_upd sp]; exact q⟩
theorem RelE.putPin {p : Addr} {xs : List V} {ds ds0 : List D} (h : RelE N S H σ ρ) (hi : ρ[i]? = some (some (.pin p ds0))) (q : DaAll (cut H S) xs ds) :
    RelE N S (upd H p (.lst xs)) σ (ρ.set i (some (.pin p ds))) := by
  obtain ⟨v, a, vs, ev, sp, np, hp, hv⟩ := h.cell i _ hi
  subst ev
  exact h.putC hi rfl a sp (fun b o z q => by rw [upd_ne z]; exact q) upd_same ⟨xs, rfl, sp, np, upd_same, by rw [cut_upd sp]; exact q⟩
end

/-! ### looking at one's own lists as at data -/
def frzC : Cell → Cell
  | .own ds => .dat (.list ds)
  | .pin _ ds => .dat (.list ds)
  | c => c
def frz (ρ : Env) : Env := ρ.map (Option.map frzC)
theorem frz_get {ρ : Env} {i : Nat} {c : Cell} (h : (frz ρ)[i]? = some (some c)) : ∃ c', ρ[i]? = some (some c') ∧ c = frzC c' := by
  unfold frz at h
  rw [List.getElem?_map] at h
  cases q : ρ[i]? with
  | none => rw [q] at h; cases h
  | some o =>
    rw [q] at h
    cases o with
    | none => cases h
    | some c' => exact ⟨c', rfl, (Option.some.inj (Option.some.inj h)).symm⟩
/-- the list that a cell tells of -/
def Cell.ls : Cell → Option (List D)
  | .own ds => some ds
  | .pin _ ds => some ds
  | _ => none
theorem CellOk.ls {N S : Addr → Prop} {H : Hp} {v : V} {c : Cell} {ds : List D} (e : c.ls = some ds) (h : CellOk N S H v c) : ∃ p vs, v = .ref p ∧ S p ∧ ¬ N p ∧ H p = some (.lst vs) ∧ DaAll (cut H S) vs ds := by
  cases c with
  | dat d => cases e
  | own es => cases e; exact h
  | dic kvs => cases e
  | pin p es => cases e; exact ⟨p, h⟩
/-- the addresses of one's own lists -/
def Mine (σ : L2.St) (ρ : Env) (a : Addr) : Prop := ∃ (i : Nat) (c : Cell) (ds : List D), ρ[i]? = some (some c) ∧ c.ls = some ds ∧ σ[i]? = some (some (.ref a))
theorem RelE.mine_new {N S : Addr → Prop} {H : Hp} {σ : L2.St} {ρ : Env} {a : Addr} (h : RelE N S H σ ρ) (q : Mine σ ρ a) : ¬ N a ∧ ∃ vs, H a = some (.lst vs) := by
  obtain ⟨i, c, ds, q1, q2, q3⟩ := q
  obtain ⟨v, a', ok⟩ := h.cell i _ q1
  obtain ⟨p, vs, ev, _, np, hp, _⟩ := ok.ls q2
  rw [q3] at a'
  obtain rfl := Option.some.inj (Option.some.inj a')
  cases ev
  exact ⟨np, vs, hp⟩
theorem RelE.frz {N S : Addr → Prop} {H : Hp} {σ : L2.St} {ρ : Env} (h : RelE N S H σ ρ) : RelE N (fun a => S a ∧ ¬ Mine σ ρ a) H σ (Wd.frz ρ) := by
  have m : Ex (cut H S) (cut H fun a => S a ∧ ¬ Mine σ ρ a) := cut_less fun _ z => z.1
  refine ⟨by rw [h.len]; unfold Wd.frz; rw [List.length_map], fun i c q => ?_, fun a q => h.al a q.1, fun a q => ⟨h.sub a q, fun z => (h.mine_new z).1 q⟩, fun i j ci cj a n ei ej mi mj si sj => ?_⟩
  · obtain ⟨c', q', rfl⟩ := frz_get q
    obtain ⟨v, sv, ok⟩ := h.cell i c' q'
    refine ⟨v, sv, ?_⟩
    cases c' with
    | dat d => exact Da.mono m d v ok
    | own ds =>
      obtain ⟨p, vs, rfl, h1, h2, h3, h4⟩ := ok
      exact .lst (cut_of (fun z => z.2 ⟨i, _, ds, q', rfl, sv⟩) h3) (DaAll.mono m _ _ h4)
    | dic kvs =>
      obtain ⟨p, vs, rfl, h1, h2, h3, hk, h4⟩ := ok
      refine ⟨p, vs, rfl, ⟨h1, fun z => ?_⟩, h2, h3, hk, DaAll.mono m _ _ h4⟩
      obtain ⟨_, ws, hl⟩ := h.mine_new z
      rw [h3] at hl
      cases hl
    | pin p ds =>
      obtain ⟨vs, rfl, h1, h2, h3, h4⟩ := ok
      exact .lst (cut_of (fun z => z.2 ⟨i, _, ds, q', rfl, sv⟩) h3) (DaAll.mono m _ _ h4)
  · obtain ⟨c1, q1, e1⟩ := frz_get ei
    obtain ⟨c2, q2, e2⟩ := frz_get ej
    have f : ∀ c : Cell, (frzC c).mine = true → c.mine = true := fun c z => by cases c <;> first | rfl | exact z
    exact h.sep i j c1 c2 a n q1 q2 (f c1 (e1 ▸ mi)) (f c2 (e2 ▸ mj)) si sj
end Wd

set_option Elab.async false
set_option linter.all false
set_option maxRecDepth 100000
set_option maxHeartbeats 4000000
set_option autoImplicit false
namespace Wd
open PySem PyProof.Rows L2

abbrev F1 := Env → Option D
abbrev FT := Env → Option Bool
abbrev FA := Env → Option (List D)

/-! ### what a reading is worth -/
def SE (t : TE) (F : F1) : Prop := ∀ (N S : Addr → Prop) (H : Hp) (σ : L2.St) (ρ : Env) (d : D), RelE N S H σ ρ → F ρ = some d → ∀ Q : VK, (∀ v H', Ex H H' → Da (cut H' S) v d → Q v H') → t σ H Q
def ST (t : TT) (B : FT) : Prop := ∀ (N S : Addr → Prop) (H : Hp) (σ : L2.St) (ρ : Env) (b : Bool), RelE N S H σ ρ → B ρ = some b → ∀ Q : Bool → Hp → Prop, (∀ H', Ex H H' → Q b H') → t σ H Q
def SA (t : TA) (A : FA) : Prop := ∀ (N S : Addr → Prop) (H : Hp) (σ : L2.St) (ρ : Env) (ds : List D), RelE N S H σ ρ → A ρ = some ds → ∀ Q : List V → Hp → Prop, (∀ vs H', Ex H H' → DaAll (cut H' S) vs ds → Q vs H') → t σ H Q
/-- a list just made -/
def SL (t : TE) (A : FA) : Prop := ∀ (N S : Addr → Prop) (H : Hp) (σ : L2.St) (ρ : Env) (ds : List D), RelE N S H σ ρ → A ρ = some ds → ∀ Q : VK, (∀ p vs H', Ex H H' → H p = none → H' p = some (.lst vs) → DaAll (cut H' fun a => S a ∨ a = p) vs ds → Q (.ref p) H') → t σ H Q
structure Ce (X : Cx) (e : Expr) (t : TE) (F : F1) : Prop where
  pe : PE X e t
  so : SE t F
structure Ct (X : Cx) (e : Expr) (t : TT) (B : FT) : Prop where
  pt : PT X e t
  so : ST t B
structure Cw (X : Cx) (e : Expr) (t : TT) (B : FT) : Prop where
  pw : PW X e t
  so : ST t B
structure Ca (X : Cx) (es : List Expr) (t : TA) (A : FA) : Prop where
  pa : PA X es t
  so : SA t A
structure Cl (X : Cx) (e : Expr) (t : TE) (A : FA) : Prop where
  pe : PE X e t
  so : SL t A

/-! ### plain functions -/
def fVar (i : Nat) : F1 := fun ρ => match ρ[i]? with
  | some (some (.dat d)) => some d
  | _ => none
def fC (d : D) : F1 := fun _ => some d
def fBin (g : D → D → Option D) (F G : F1) : F1 := fun ρ => match F ρ with
  | some a => match G ρ with
    | some b => g a b
    | none => none
  | none => none
def fUn (g : D → Option D) (F : F1) : F1 := fun ρ => match F ρ with
  | some a => g a
  | none => none
def fNil : FA := fun _ => some []
def fCons (F : F1) (A : FA) : FA := fun ρ => match F ρ with
  | some a => match A ρ with
    | some as => some (a :: as)
    | none => none
  | none => none
def fApp (g : List D → Option D) (A : FA) : F1 := fun ρ => match A ρ with
  | some as => g as
  | none => none
def fTup (A : FA) : F1 := fun ρ => match A ρ with
  | some as => if as.length ≤ 100000 then some (.tuple as) else none
  | none => none
def fLst (A : FA) : FA := fun ρ => match A ρ with
  | some as => if as.length ≤ 100000 then some as else none
  | none => none
def fOfL (A : FA) : F1 := fun ρ => match A ρ with
  | some as => some (.list as)
  | none => none
def fTest (F : F1) : FT := fun ρ => match F ρ with
  | some (.bool b) => some b
  | _ => none
def fAnd (A B : FT) : FT := fun ρ => match A ρ with
  | some true => B ρ
  | some false => some false
  | none => none
def fOr (A B : FT) : FT := fun ρ => match A ρ with
  | some true => some true
  | some false => B ρ
  | none => none
def fNot (A : FT) : FT := fun ρ => match A ρ with
  | some b => some (!b)
  | none => none
def fAndV (F G : F1) : F1 := fun ρ => match F ρ with
  | some (.bool true) => G ρ
  | some (.bool false) => some (.bool false)
  | _ => none
def fOrV (F G : F1) : F1 := fun ρ => match F ρ with
  | some (.bool true) => some (.bool true)
  | some (.bool false) => G ρ
  | _ => none
def fNotV (F : F1) : F1 := fun ρ => match F ρ with
  | some (.bool b) => some (.bool !b)
  | _ => none
def fIf (B : FT) (F G : F1) : F1 := fun ρ => match B ρ with
  | some true => F ρ
  | some false => G ρ
  | none => none
def fFrz (F : F1) : F1 := fun ρ => match F (frz ρ) with
  | some d => if lf d then some d else none
  | none => none

section
variable {X : Cx} {a b e c : Expr} {es rest : List Expr} {ta tb te : TE} {tt tu : TT} {t : TA} {F G : F1} {A B : FT} {L : FA} {pos : Pos}

theorem ce_var (i : Nat) {x : Str} (hN : X.N[i]? = some x := by rfl) (hv : Vis X.env.scope x := by first | exact Or.inl rfl | exact Or.inr (Or.inl rfl) | exact Or.inr (Or.inr rfl)) (hd : (x == ("__debug__" : Str)) = false := by decide)
    (hcd : (x == ("__classdict__" : Str)) = false := by decide) : Ce X (.Name x pos) (tVar i) (fVar i) := by
  refine ⟨pe_var hN hv hd hcd, fun N S H σ ρ d R h Q k => ?_⟩
  unfold fVar at h
  split at h
  · rename_i d' e
    cases h
    obtain ⟨v, s, ok⟩ := R.cell i _ e
    exact ⟨v, s, k v H (Evl.Ex.refl H) ok⟩
  · cases h
theorem ce_int {i : Int} {j : Nat} : Ce X (.Constant (.int i) j pos) (tC (.int i)) (fC (.int i)) := ⟨pe_int, fun N S H σ ρ d R h Q k => by cases h; exact k _ H (Evl.Ex.refl H) (.int i)⟩
theorem ce_bl {i : Bool} {j : Nat} : Ce X (.Constant (.bool i) j pos) (tC (.bl i)) (fC (.bool i)) := ⟨pe_bl, fun N S H σ ρ d R h Q k => by cases h; exact k _ H (Evl.Ex.refl H) (.bl i)⟩
theorem ce_non {j : Nat} : Ce X (.Constant .none j pos) (tC .non) (fC .none) := ⟨pe_non, fun N S H σ ρ d R h Q k => by cases h; exact k _ H (Evl.Ex.refl H) .non⟩
theorem ce_str {x : Str} {j : Nat} : Ce X (.Constant (.str x) j pos) (tC (.str x)) (fC (.str x)) := ⟨pe_str, fun N S H σ ρ d R h Q k => by cases h; exact k _ H (Evl.Ex.refl H) (.str x)⟩

/-- an operation on values, on data -/
def RD2 (r : R2) (g : D → D → Option D) : Prop := ∀ (S : Addr → Prop) (H : Hp) (x y : V) (d e z : D), Alive S H → Da (cut H S) x d → Da (cut H S) y e → g d e = some z → ∀ Q : VK, (∀ v H', Ex H H' → Da (cut H' S) v z → Q v H') → r x y H Q
def RD1 (r : V → Hp → VK → Prop) (g : D → Option D) : Prop := ∀ (S : Addr → Prop) (H : Hp) (x : V) (d z : D), Alive S H → Da (cut H S) x d → g d = some z → ∀ Q : VK, (∀ v H', Ex H H' → Da (cut H' S) v z → Q v H') → r x H Q
def RDc (r : List V → Hp → VK → Prop) (g : List D → Option D) : Prop := ∀ (S : Addr → Prop) (H : Hp) (xs : List V) (ds : List D) (z : D), Alive S H → DaAll (cut H S) xs ds → g ds = some z → ∀ Q : VK, (∀ v H', Ex H H' → Da (cut H' S) v z → Q v H') → r xs H Q
theorem so_op {r : R2} {g : D → D → Option D} (hr : RD2 r g) (ha : SE ta F) (hb : SE tb G) : SE (tOp r ta tb) (fBin g F G) := fun N S H σ ρ z R h Q k => by
  unfold fBin at h
  split at h
  · rename_i d1 e1
    split at h
    · rename_i d2 e2
      refine ha N S H σ ρ d1 R e1 _ fun v1 H1 x1 o1 => ?_
      refine hb N S H1 σ ρ d2 (R.mono x1) e2 _ fun v2 H2 x2 o2 => ?_
      exact hr S H2 v1 v2 d1 d2 z (R.al.mono (x1.trans x2)) (Da.mono (cut_mono x2) _ _ o1) o2 h Q fun v H3 x3 o3 => k v H3 ((x1.trans x2).trans x3) o3
    · cases h
  · cases h
theorem so_un {r : V → Hp → VK → Prop} {g : D → Option D} (hr : RD1 r g) (ha : SE ta F) : SE (tUn r ta) (fUn g F) := fun N S H σ ρ z R h Q k => by
  unfold fUn at h
  split at h
  · rename_i d1 e1
    refine ha N S H σ ρ d1 R e1 _ fun v1 H1 x1 o1 => ?_
    exact hr S H1 v1 d1 z (R.al.mono x1) o1 h Q fun v H3 x3 o3 => k v H3 (x1.trans x3) o3
  · cases h
theorem ce_op {op : Operator} {r : R2} {g : D → D → Option D} (ho : OpR X (binaryOp op) r) (hr : RD2 r g) (ha : Ce X a ta F) (hb : Ce X b tb G) : Ce X (.BinOp a op b pos) (tOp r ta tb) (fBin g F G) := ⟨pe_op ho ha.pe hb.pe, so_op hr ha.so hb.so⟩
theorem ce_un {op : UnaryOp} {r : V → Hp → VK → Prop} {g : D → Option D} (ho : UnR X (unaryOp op) r) (hr : RD1 r g) (ha : Ce X a ta F) : Ce X (.UnaryOp op a pos) (tUn r ta) (fUn g F) := ⟨pe_un ho ha.pe, so_un hr ha.so⟩
theorem ce_cmp {op : CmpOp} {r : R2} {g : D → D → Option D} (ho : OpR X (compareOp op) r) (hr : RD2 r g) (ha : Ce X a ta F) (hb : Ce X b tb G) (hm : behindInMarks op b = false := by first | exact nomark _ | rfl | with_unfolding_all rfl) : Ce X (.Compare a [op] [b] pos) (tOp r ta tb) (fBin g F G) :=
  ⟨pe_cmpR ho ha.pe hb.pe hm, so_op hr ha.so hb.so⟩
theorem ce_ix {r : R2} {g : D → D → Option D} (ho : IxR X r) (hr : RD2 r g) (ha : Ce X a ta F) (hb : Ce X b tb G) (hs : PlainIx b := by exact fun _ _ => rfl) : Ce X (.Subscript a b pos) (tOp r ta tb) (fBin g F G) := ⟨pe_ix ho ha.pe hb.pe hs, so_op hr ha.so hb.so⟩

/-! ### tests -/
theorem so_test (ha : SE ta F) : ST (tTest ta) (fTest F) := fun N S H σ ρ z R h Q k => by
  unfold fTest at h
  split at h
  · rename_i d1 e1
    cases h
    refine ha N S H σ ρ _ R e1 _ fun v1 H1 x1 o1 => ?_
    cases o1
    exact ⟨_, rfl, k H1 x1⟩
  · cases h
theorem ct_cmp {op : CmpOp} {r : R2} {g : D → D → Option D} (ho : OpR X (compareOp op) r) (hr : RD2 r g) (ha : Ce X a ta F) (hb : Ce X b tb G) (hm : behindInMarks op b = false := by first | exact nomark _ | rfl | with_unfolding_all rfl) : Ct X (.Compare a [op] [b] pos) (tTest (tOp r ta tb)) (fTest (fBin g F G)) :=
  ⟨pt_cmpR ho ha.pe hb.pe hm, so_test (so_op hr ha.so hb.so)⟩
theorem ct_val (ha : Ce X a ta F) (he : ∀ whole, isTrue a X.env whole = (do let v ← whole; standAt a.pos; holding [v] (truthy v)) := by intro _; rfl) : Ct X a (tB ta) (fTest F) := ⟨pt_val ha.pe he, so_test ha.so⟩
theorem ct_not (ha : Ct X a tt A) : Ct X (.UnaryOp .Not a pos) (tNot tt) (fNot A) := ⟨pt_not ha.pt, fun N S H σ ρ z R h Q k => by
  unfold fNot at h
  split at h
  · rename_i d1 e1
    cases h
    exact ha.so N S H σ ρ _ R e1 _ fun H1 x1 => k H1 x1
  · cases h⟩
theorem so_and (ha : ST tt A) (hb : ST tu B) : ST (tAnd tt tu) (fAnd A B) := fun N S H σ ρ z R h Q k => by
  unfold fAnd at h
  split at h
  · rename_i e1
    refine ha N S H σ ρ _ R e1 _ fun H1 x1 => ?_
    exact iteT (hb N S H1 σ ρ z (R.mono x1) h _ fun H2 x2 => k H2 (x1.trans x2))
  · rename_i e1
    cases h
    refine ha N S H σ ρ _ R e1 _ fun H1 x1 => ?_
    exact iteF (k H1 x1)
  · cases h
theorem so_or (ha : ST tt A) (hb : ST tu B) : ST (tOr tt tu) (fOr A B) := fun N S H σ ρ z R h Q k => by
  unfold fOr at h
  split at h
  · rename_i e1
    cases h
    refine ha N S H σ ρ _ R e1 _ fun H1 x1 => ?_
    exact iteT (k H1 x1)
  · rename_i e1
    refine ha N S H σ ρ _ R e1 _ fun H1 x1 => ?_
    exact iteF (hb N S H1 σ ρ z (R.mono x1) h _ fun H2 x2 => k H2 (x1.trans x2))
  · cases h
theorem cw_and1 (ha : Ct X a tt A) : Cw X (.BoolOp .And [a] pos) tt A := ⟨pw_and1 ha.pt, ha.so⟩
theorem cw_or1 (ha : Ct X a tt A) : Cw X (.BoolOp .Or [a] pos) tt A := ⟨pw_or1 ha.pt, ha.so⟩
theorem cw_and (ha : Ct X a tt A) (hb : Cw X (.BoolOp .And (b :: rest) pos) tu B) : Cw X (.BoolOp .And (a :: b :: rest) pos) (tAnd tt tu) (fAnd A B) := ⟨pw_and ha.pt hb.pw, so_and ha.so hb.so⟩
theorem cw_or (ha : Ct X a tt A) (hb : Cw X (.BoolOp .Or (b :: rest) pos) tu B) : Cw X (.BoolOp .Or (a :: b :: rest) pos) (tOr tt tu) (fOr A B) := ⟨pw_or ha.pt hb.pw, so_or ha.so hb.so⟩
theorem Cw.ct (h : Cw X a tt A) : Ct X a tt A := ⟨h.pw.pt, h.so⟩
/-! .. as values -/
theorem ce_one {op : BoolOp} (h : Ce X a ta F) : Ce X (.BoolOp op [a] pos) ta F := ⟨pe_one h.pe, h.so⟩
theorem ce_and (ha : Ce X a ta F) (hb : Ce X (.BoolOp .And (b :: rest) pos) tb G) : Ce X (.BoolOp .And (a :: b :: rest) pos) (tAndV ta tb) (fAndV F G) := ⟨pe_and ha.pe hb.pe, fun N S H σ ρ z R h Q k => by
  unfold fAndV at h
  split at h
  · rename_i e1
    refine ha.so N S H σ ρ _ R e1 _ fun v1 H1 x1 o1 => ?_
    cases o1
    exact ⟨true, rfl, iteT (hb.so N S H1 σ ρ z (R.mono x1) h _ fun v H2 x2 o2 => k v H2 (x1.trans x2) o2)⟩
  · rename_i e1
    cases h
    refine ha.so N S H σ ρ _ R e1 _ fun v1 H1 x1 o1 => ?_
    cases o1
    exact ⟨false, rfl, iteF (k _ H1 x1 (.bl false))⟩
  · cases h⟩
theorem ce_or (ha : Ce X a ta F) (hb : Ce X (.BoolOp .Or (b :: rest) pos) tb G) : Ce X (.BoolOp .Or (a :: b :: rest) pos) (tOrV ta tb) (fOrV F G) := ⟨pe_or ha.pe hb.pe, fun N S H σ ρ z R h Q k => by
  unfold fOrV at h
  split at h
  · rename_i e1
    cases h
    refine ha.so N S H σ ρ _ R e1 _ fun v1 H1 x1 o1 => ?_
    cases o1
    exact ⟨true, rfl, iteT (k _ H1 x1 (.bl true))⟩
  · rename_i e1
    refine ha.so N S H σ ρ _ R e1 _ fun v1 H1 x1 o1 => ?_
    cases o1
    exact ⟨false, rfl, iteF (hb.so N S H1 σ ρ z (R.mono x1) h _ fun v H2 x2 o2 => k v H2 (x1.trans x2) o2)⟩
  · cases h⟩
theorem ce_not (ha : Ce X a ta F) : Ce X (.UnaryOp .Not a pos) (tNotV ta) (fNotV F) := ⟨pe_not ha.pe, fun N S H σ ρ z R h Q k => by
  unfold fNotV at h
  split at h
  · rename_i d1 e1
    cases h
    refine ha.so N S H σ ρ _ R e1 _ fun v1 H1 x1 o1 => ?_
    cases o1
    exact ⟨_, rfl, k _ H1 x1 (.bl _)⟩
  · cases h⟩
theorem ce_if (hc : Ct X c tt A) (ha : Ce X a ta F) (hb : Ce X b tb G) : Ce X (.IfExp c a b pos) (tIf tt ta tb) (fIf A F G) := ⟨pe_ifExp hc.pt ha.pe hb.pe, fun N S H σ ρ z R h Q k => by
  unfold fIf at h
  split at h
  · rename_i e1
    refine hc.so N S H σ ρ _ R e1 _ fun H1 x1 => ?_
    exact iteT (ha.so N S H1 σ ρ z (R.mono x1) h _ fun v H2 x2 o2 => k v H2 (x1.trans x2) o2)
  · rename_i e1
    refine hc.so N S H σ ρ _ R e1 _ fun H1 x1 => ?_
    exact iteF (hb.so N S H1 σ ρ z (R.mono x1) h _ fun v H2 x2 o2 => k v H2 (x1.trans x2) o2)
  · cases h⟩

/-! ### arguments, displays, calls -/
theorem ca_nil : Ca X [] tNil fNil := ⟨pa_nil, fun N S H σ ρ z R h Q k => by cases h; exact k [] H (Evl.Ex.refl H) .nil⟩
theorem ca_cons (ha : Ce X e te F) (hr : Ca X es t L) (hs : starEach (e :: es) X.env = (false, eval e X.env) :: starEach es X.env := by rfl) : Ca X (e :: es) (tCons te t) (fCons F L) := ⟨pa_cons ha.pe hr.pa hs, fun N S H σ ρ z R h Q k => by
  unfold fCons at h
  split at h
  · rename_i d1 e1
    split at h
    · rename_i ds e2
      cases h
      refine ha.so N S H σ ρ _ R e1 _ fun v1 H1 x1 o1 => ?_
      refine hr.so N S H1 σ ρ _ (R.mono x1) e2 _ fun vs H2 x2 o2 => ?_
      exact k _ H2 (x1.trans x2) (.cons (Da.mono (cut_mono x2) _ _ o1) o2)
    · cases h
  · cases h⟩
theorem sz_of {n : Nat} (h : n ≤ 100000) : n ≤ sizeLine := Evl.sz_of h
theorem ce_tup {k : Nat} (h : Ca X es t L) : Ce X (.Tuple es k pos) (tTup t) (fTup L) := ⟨pe_tup h.pa, fun N S H σ ρ z R hz Q k => by
  unfold fTup at hz
  split at hz
  · rename_i ds e1
    split at hz
    · rename_i hl
      cases hz
      refine h.so N S H σ ρ _ R e1 _ fun vs H1 x1 o1 => ⟨sz_of (by rw [o1.length]; exact hl), fun p hp => ?_⟩
      have x2 : Ex H1 (upd H1 p (.tup vs)) := Evl.Ex.new hp
      have al := R.al.mono x1
      exact k _ _ (x1.trans x2) (.tup (cut_of (al.there hp) upd_same) (DaAll.mono (cut_mono x2) _ _ o1))
    · cases hz
  · cases hz⟩
theorem cl_lst (h : Ca X es t L) : Cl X (.List es pos) (tLst t) (fLst L) := ⟨pe_lst h.pa, fun N S H σ ρ z R hz Q k => by
  unfold fLst at hz
  split at hz
  · rename_i ds e1
    split at hz
    · rename_i hl
      cases hz
      refine h.so N S H σ ρ _ R e1 _ fun vs H1 x1 o1 => ⟨sz_of (by rw [o1.length]; exact hl), fun p hp => ?_⟩
      have x2 : Ex H1 (upd H1 p (.lst vs)) := Evl.Ex.new hp
      exact k p vs _ (x1.trans x2) (Evl.fresh_back x1 hp) upd_same (DaAll.mono (cut_new hp x2) _ _ o1)
    · cases hz
  · cases hz⟩
theorem so_ofL {te : TE} {L : FA} (h : SL te L) : SE te (fOfL L) := fun N S H σ ρ z R hz Q k => by
  unfold fOfL at hz
  split at hz
  · rename_i ds e1
    cases hz
    refine h N S H σ ρ _ R e1 _ fun p vs H1 x1 hp h1 o1 => k _ H1 x1 ?_
    have np : ¬ S p := R.al.there hp
    exact .lst (cut_of np h1) (DaAll.mono (cut_less fun a z => .inl z) _ _ o1)
  · cases hz
theorem Cl.ce (h : Cl X e te L) : Ce X e te (fOfL L) := ⟨h.pe, so_ofL h.so⟩
theorem so_app {r : List V → Hp → VK → Prop} {g : List D → Option D} (hr : RDc r g) (ha : SA t L) : SE (tCB r t) (fApp g L) := fun N S H σ ρ z R hz Q k => by
  unfold fApp at hz
  split at hz
  · rename_i ds e1
    exact ha N S H σ ρ _ R e1 _ fun vs H1 x1 o1 => hr S H1 vs ds z (R.al.mono x1) o1 hz Q fun v H2 x2 o2 => k v H2 (x1.trans x2) o2
  · cases hz
theorem ce_callB {id : String} {x : Str} {r : List V → Hp → VK → Prop} {g : List D → Option D} {p : Pos} (hc : CallR X (.builtin id) r) (hr : RDc r g) (hg : Gl X x) (hm : X.mg x = none) (hv : bootBuiltins x = some (.builtin id)) (ha : Ca X (e :: es) t L) (hn : x ≠ "__name__" := by decide) (hdb : (x == ("__debug__" : Str)) = false := by decide)
    (he : starEach (e :: es) X.env = (false, eval e X.env) :: starEach es X.env := by rfl) (hpl : (backTo pos (starEach es X.env)).any (·.1) = false := by rfl) :
    Ce X (.Call (.Name x p) (e :: es) [] pos) (tCB r t) (fApp g L) := ⟨pe_callB hc hg hm hv ha.pa hn hdb he hpl, so_app hr ha.so⟩
theorem ce_callTy {T : String} {x : Str} {r : List V → Hp → VK → Prop} {g : List D → Option D} {p : Pos} (hc : CallR X (.type T) r) (hr : RDc r g) (hg : Gl X x) (hm : X.mg x = none) (hv : bootBuiltins x = some (.type T)) (ha : Ca X (e :: es) t L) (hn : x ≠ "__name__" := by decide) (hdb : (x == ("__debug__" : Str)) = false := by decide)
    (he : starEach (e :: es) X.env = (false, eval e X.env) :: starEach es X.env := by rfl) (hpl : (backTo pos (starEach es X.env)).any (·.1) = false := by rfl) :
    Ce X (.Call (.Name x p) (e :: es) [] pos) (tCB r t) (fApp g L) := ⟨pe_callTy hc hg hm hv ha.pa hn hdb he hpl, so_app hr ha.so⟩
/-- the promise of a def: a plain function of plain data -/
def spD (g : List D → Option D) : Sp := fun vs H Q _ => ∃ (S : Addr → Prop) (ds : List D) (d : D), Alive S H ∧ DaAll (cut H S) vs ds ∧ g ds = some d ∧ ∀ v H', Ex H H' → Da (cut H' S) v d → Q v H'
theorem so_call {g : List D → Option D} {E : XK} (ha : SA t L) : SE (tCall (spD g) [] E t) (fApp g L) := fun N S H σ ρ z R hz Q k => by
  unfold fApp at hz
  split at hz
  · rename_i ds e1
    refine ha N S H σ ρ _ R e1 _ fun vs H1 x1 o1 => ?_
    rw [List.append_nil]
    exact ⟨S, ds, z, R.al.mono x1, o1, hz, fun v H2 x2 o2 => k v H2 (x1.trans x2) o2⟩
  · cases hz
theorem ce_call {g : List D → Option D} {j k : Nat} {f : Addr} {fd : FuncData} {ps : List Str} {x : Str} {p : Pos} (F : FnOk X.prog X.w X.K X.mg X.base CX0 k f fd ps (spD g)) (hr : Room j X.A) (hj : k ≤ j) (hg : Gl X x) (hm : X.mg x = some (.ref f)) (hk : PySem.W.keepIn X.K (.ref f) = true) (hb : Binds X.K fd ps [])
    (ha : Ca X (e :: es) t L) (hdb : (x == ("__debug__" : Str)) = false := by decide) (he : starEach (e :: es) X.env = (false, eval e X.env) :: starEach es X.env := by rfl) (hpl : (backTo pos (starEach es X.env)).any (·.1) = false := by rfl) :
    Ce X (.Call (.Name x p) (e :: es) [] pos) (tCall (spD g) [] E0 t) (fApp g L) := ⟨pe_call F (hr.mono hj) hg hm hk hb .nil pass0 ha.pa hdb he hpl, so_call ha.so⟩
/-- seen with one's own lists as data, where what comes has no list in it -/
theorem ce_frz (h : Ce X e te F) : Ce X e te (fFrz F) := ⟨h.pe, fun N S H σ ρ z R hz Q k => by
  unfold fFrz at hz
  split at hz
  · rename_i d e1
    split at hz
    · rename_i hl
      cases hz
      exact h.so N _ H σ (frz ρ) _ R.frz e1 Q fun v H1 x1 o1 => k v H1 x1 (Da.lf (R.al.mono x1) _ _ hl o1)
    · cases hz
  · cases hz⟩
end

/-! ### what is walked -/
def Yld (J : It) (H : Hp) (vs : List V) : Prop := (∀ (i : Nat) (x : V), vs[i]? = some x → J.go i H ∧ ∀ x' H', J.yld i H x' H' → H' = H ∧ x' = x) ∧ ∀ i, vs.length ≤ i → J.stop i H
def SI (wi : TI) (L : FA) : Prop := ∀ (N S : Addr → Prop) (H : Hp) (σ : L2.St) (ρ : Env) (ds : List D), RelE N S H σ ρ → L ρ = some ds → ∀ R : It → Hp → Prop, (∀ J H' vs, Ex H H' → DaAll (cut H' S) vs ds → (∀ H'', Ex (cut H' S) H'' → Yld J H'' vs) → R J H') → wi σ H R
structure Ci (X : Cx) (tg iter : Expr) (wi : TI) (L : FA) : Prop where
  pi : PI X tg iter wi
  so : SI wi L
/-- the items of a list, a tuple, a text -/
def items : D → Option (List D)
  | .list ds => some ds
  | .tuple ds => some ds
  | .str x => some (x.cps.toList.map fun c => .str ⟨#[c]⟩)
  | _ => none
def fIter (F : F1) : FA := fun ρ => match F ρ with
  | some d => items d
  | none => none
def iSeq (K : PySem.W.Frag) (te : TE) : TI := fun σ H R => te σ H fun x H1 => (∃ a xs, x = .ref a ∧ H1 a = some (.lst xs) ∧ R (Itl K a) H1) ∨ (∃ a xs, x = .ref a ∧ H1 a = some (.tup xs) ∧ R (Itt K a) H1) ∨ ∃ z, x = .str z ∧ R (Its z) H1
theorem pi_seq {X : Cx} {tg l : Expr} {tl : TE} (hl : PE X l tl) : PI X tg l (iSeq X.K tl) := by
  refine ⟨fun pins s σ H R I h => ?_⟩
  refine thn (hl.run pins s σ H _ I h) fun v s1 ⟨x, H1, I1, r1, q1⟩ => ?_
  rcases q1 with ⟨a, xs, e, hq, q⟩ | ⟨a, xs, e, hq, q⟩ | ⟨z, e, q⟩
  · subst e
    cases r1
    obtain ⟨its, rv, p, hz⟩ := I1.list (SqL.of hq)
    refine wpAny_pyIter_list p.isList ?_
    refine ⟨s1.heap.objs.size, [s1.heap.objs.size], _, _, H1, rfl, I1.kept (t' := s1.toks) fun b o e => Heap.get?_push_of_some _ e, turn_list a _, ⟨_, Heap.get?_push_size _ rfl, rfl, rfl⟩, fun b hb => ?_, q⟩
    have e : b = s1.heap.objs.size := by simpa using hb
    subst e
    exact I1.fpOk (Nat.le_refl _) (I1.hok.fresh (Nat.le_refl _))
  · subst e
    cases r1
    obtain ⟨its, rv, p, hz⟩ := I1.tuple (SqT.of hq)
    refine wpAny_pyIter_tuple (show s1.heap.IsTuple a its.toArray from p) ?_
    refine ⟨s1.heap.objs.size, [s1.heap.objs.size], _, _, H1, rfl, I1.kept (t' := s1.toks) fun b o e => Heap.get?_push_of_some _ e, turn_tuple a _, ⟨_, Heap.get?_push_size _ rfl, rfl, rfl⟩, fun b hb => ?_, q⟩
    have e : b = s1.heap.objs.size := by simpa using hb
    subst e
    exact I1.fpOk (Nat.le_refl _) (I1.hok.fresh (Nat.le_refl _))
  · subst e
    obtain ⟨t, rfl⟩ := r1
    cases ha : z.cps.all (· < 128)
    · exact wpAny_pyIter_wide ha (pi_one (tk := s1.toks) I1 _ (turn_str _ z t "str_iterator" (.inr rfl)) ⟨_, Heap.get?_push_size _ rfl, rfl, rfl⟩ q)
    · exact wpAny_pyIter_ascii ha (pi_one (tk := s1.toks) I1 _ (turn_str _ z t "str_ascii_iterator" (.inl rfl)) ⟨_, Heap.get?_push_size _ rfl, rfl, rfl⟩ q)
theorem yld_list {K : PySem.W.Frag} {a : Addr} {vs : List V} {H : Hp} (h : H a = some (.lst vs)) : Yld (Itl K a) H vs :=
  ⟨fun i x hx => ⟨⟨vs, x, SqL.of h, hx⟩, fun x' H' ⟨e, y⟩ => ⟨e, Option.some.inj ((y vs (SqL.of h)).symm.trans hx)⟩⟩, fun i hi => ⟨vs, SqL.of h, hi⟩⟩
theorem yld_tup {K : PySem.W.Frag} {a : Addr} {vs : List V} {H : Hp} (h : H a = some (.tup vs)) : Yld (Itt K a) H vs :=
  ⟨fun i x hx => ⟨⟨vs, x, SqT.of h, hx⟩, fun x' H' ⟨e, y⟩ => ⟨e, Option.some.inj ((y vs (SqT.of h)).symm.trans hx)⟩⟩, fun i hi => ⟨vs, SqT.of h, hi⟩⟩
theorem yld_str {z : Str} {H : Hp} : Yld (Its z) H (z.cps.toList.map fun c => .str ⟨#[c]⟩) := by
  refine ⟨fun i x hx => ?_, fun i hi => ?_⟩
  · rw [List.getElem?_map, Array.getElem?_toList] at hx
    cases q : z.cps[i]? with
    | none => rw [q] at hx; cases hx
    | some c =>
      rw [q] at hx
      have e := Option.some.inj hx
      refine ⟨(Array.getElem?_eq_some_iff.mp q).1, fun x' H' ⟨e1, c', hc, e2⟩ => ⟨e1, ?_⟩⟩
      rw [q] at hc
      cases hc
      exact e2.trans e
  · rw [List.length_map, Array.length_toList] at hi
    exact hi
theorem da_strs {H : Hp} : ∀ cs : List Nat, DaAll H (cs.map fun c => V.str ⟨#[c]⟩) (cs.map fun c => PyData.str ⟨#[c]⟩)
  | [] => .nil
  | c :: cs => .cons (.str _) (da_strs cs)
theorem si_seq {K : PySem.W.Frag} {te : TE} {F : F1} (h : SE te F) : SI (iSeq K te) (fIter F) := fun N S H σ ρ ds R hz T k => by
  unfold fIter at hz
  split at hz
  · rename_i d e1
    refine h N S H σ ρ d R e1 _ fun v H1 x1 o1 => ?_
    cases o1 with
    | lst ha hs =>
      cases hz
      obtain ⟨_, h1⟩ := cut_some ha
      exact .inl ⟨_, _, rfl, h1, k _ H1 _ x1 hs fun H2 x2 => yld_list (x2 _ _ ha)⟩
    | tup ha hs =>
      cases hz
      obtain ⟨_, h1⟩ := cut_some ha
      exact .inr (.inl ⟨_, _, rfl, h1, k _ H1 _ x1 hs fun H2 x2 => yld_tup (x2 _ _ ha)⟩)
    | str z =>
      cases hz
      exact .inr (.inr ⟨z, rfl, k _ H1 _ x1 (da_strs _) fun H2 x2 => yld_str⟩)
    | _ => cases hz
  · cases hz
theorem ci_seq {X : Cx} {tg l : Expr} {te : TE} {F : F1} (h : Ce X l te F) : Ci X tg l (iSeq X.K te) (fIter F) := ⟨pi_seq h.pe, si_seq h.so⟩

/-! ranges -/
def rngD (lo : Int) (n : Nat) : List D := (List.range n).map fun (i : Nat) => PyData.int (lo + (i : Int))
def rngV (lo : Int) (n : Nat) : List V := (List.range n).map fun (i : Nat) => V.int (lo + (i : Int))
def okI (i : Int) : Bool := decide (-(2 ^ 62) ≤ i) && decide (i < 2 ^ 62)
theorem okI_iff {i : Int} : okI i = true ↔ -(2 ^ 62) ≤ i ∧ i < 2 ^ 62 := by unfold okI; rw [Bool.and_eq_true, decide_eq_true_eq, decide_eq_true_eq]
def fRng1 (A : FA) : FA := fun ρ => match A ρ with
  | some [.int n] => if okI n = true then some (rngD 0 n.toNat) else none
  | _ => none
def fRng2 (A : FA) : FA := fun ρ => match A ρ with
  | some [.int m, .int n] => if (okI m && okI n) = true then some (rngD m (n - m).toNat) else none
  | _ => none
/-- downwards by ones -/
def dwnD (lo : Int) (n : Nat) : List D := (List.range n).map fun (i : Nat) => PyData.int (lo - (i : Int))
def dwnV (lo : Int) (n : Nat) : List V := (List.range n).map fun (i : Nat) => V.int (lo - (i : Int))
def fRng3 (A : FA) : FA := fun ρ => match A ρ with
  | some [.int m, .int n, .int (-1)] => if (okI m && okI n) = true then some (dwnD m (m - n).toNat) else none
  | _ => none
theorem da_map {H : Hp} {α : Type} (f : α → V) (g : α → D) (h : ∀ a, Da H (f a) (g a)) : ∀ l : List α, DaAll H (l.map f) (l.map g)
  | [] => .nil
  | a :: l => .cons (h a) (da_map f g h l)
theorem da_rng {H : Hp} {lo : Int} {n : Nat} : DaAll H (rngV lo n) (rngD lo n) := da_map _ _ (fun i => .int _) _
theorem da_dwn {H : Hp} {lo : Int} {n : Nat} : DaAll H (dwnV lo n) (dwnD lo n) := da_map _ _ (fun i => .int _) _
theorem yld_rng {lo : Int} {n : Nat} {H : Hp} : Yld (Itr lo n) H (rngV lo n) := by
  refine ⟨fun i x hx => ?_, fun i hi => ?_⟩
  · unfold rngV at hx
    rw [List.getElem?_map] at hx
    by_cases q : i < n
    · rw [List.getElem?_range q] at hx
      have e := Option.some.inj hx
      exact ⟨q, fun x' H' ⟨e1, e2⟩ => ⟨e1, e2.trans e⟩⟩
    · rw [List.getElem?_eq_none (by rw [List.length_range]; omega)] at hx
      cases hx
  · unfold rngV at hi
    rw [List.length_map, List.length_range] at hi
    exact hi
theorem yld_dwn {lo : Int} {n : Nat} {H : Hp} : Yld (Itc lo (-1) n) H (dwnV lo n) := by
  refine ⟨fun i x hx => ?_, fun i hi => ?_⟩
  · unfold dwnV at hx
    rw [List.getElem?_map] at hx
    by_cases q : i < n
    · rw [List.getElem?_range q] at hx
      have e := Option.some.inj hx
      refine ⟨q, fun x' H' ⟨e1, e2⟩ => ⟨e1, e2.trans (Eq.trans ?_ e)⟩⟩
      show V.int (lo + (i : Int) * (-1)) = V.int (lo - (i : Int))
      rw [show lo + (i : Int) * (-1) = lo - (i : Int) by omega]
    · rw [List.getElem?_eq_none (by rw [List.length_range]; omega)] at hx
      cases hx
  · unfold dwnV at hi
    rw [List.length_map, List.length_range] at hi
    exact hi
theorem int_of {H : Hp} {v : V} {i : Int} (h : Da H v (.int i)) : v = .int i := by cases h; rfl
section
variable {X : Cx} {tg a b c : Expr} {ta : TA} {p pos : Pos} {A : FA}
theorem ci_range1 (hg : Gl X "range") (hm : X.mg "range" = none) (ha : Ca X [a] ta A) (hs : starEach [a] X.env = [(false, eval a X.env)] := by rfl) : Ci X tg (.Call (.Name "range" p) [a] [] pos) (iRng1 ta) (fRng1 A) := ⟨pi_range1 hg hm ha.pa hs, fun N S H σ ρ ds R hz T k => by
  unfold fRng1 at hz
  split at hz
  · rename_i n e1
    split at hz
    · rename_i hn
      cases hz
      refine ha.so N S H σ ρ _ R e1 _ fun vs H1 x1 o1 => ?_
      cases o1 with
      | cons h1 h2 =>
        cases h2
        cases h1
        obtain ⟨n1, n2⟩ := okI_iff.mp hn
        exact ⟨n, rfl, n1, n2, k _ H1 (rngV 0 n.toNat) x1 da_rng fun _ _ => yld_rng⟩
    · cases hz
  · cases hz⟩
theorem ci_range2 (hg : Gl X "range") (hm : X.mg "range" = none) (ha : Ca X [a, b] ta A) (hs : starEach [a, b] X.env = [(false, eval a X.env), (false, eval b X.env)] := by rfl) (hs2 : starEach [b] X.env = [(false, eval b X.env)] := by rfl) : Ci X tg (.Call (.Name "range" p) [a, b] [] pos) (iRng2 ta) (fRng2 A) := ⟨pi_range2 hg hm ha.pa hs hs2, fun N S H σ ρ ds R hz T k => by
  unfold fRng2 at hz
  split at hz
  · rename_i m n e1
    split at hz
    · rename_i hn
      cases hz
      refine ha.so N S H σ ρ _ R e1 _ fun vs H1 x1 o1 => ?_
      cases o1 with
      | cons h1 h2 =>
        cases h2 with
        | cons h2 h3 =>
        cases h3
        cases h1
        cases h2
        rw [Bool.and_eq_true] at hn
        obtain ⟨n1, n2⟩ := okI_iff.mp hn.1
        obtain ⟨n3, n4⟩ := okI_iff.mp hn.2
        exact ⟨m, n, rfl, ⟨n1, n2, n3, n4⟩, k _ H1 (rngV m (n - m).toNat) x1 da_rng fun _ _ => yld_rng⟩
    · cases hz
  · cases hz⟩
theorem ci_range3 (hg : Gl X "range") (hm : X.mg "range" = none) (ha : Ca X [a, b, c] ta A) (hs : starEach [a, b, c] X.env = (false, eval a X.env) :: starEach [b, c] X.env := by rfl) (hpl : (backTo pos (starEach [b, c] X.env)).any (·.1) = false := by rfl) : Ci X tg (.Call (.Name "range" p) [a, b, c] [] pos) (iRng3 ta) (fRng3 A) := ⟨pi_range3 hg hm ha.pa hs hpl, fun N S H σ ρ ds R hz T k => by
  unfold fRng3 at hz
  split at hz
  · rename_i m n e1
    split at hz
    · rename_i hn
      cases hz
      refine ha.so N S H σ ρ _ R e1 _ fun vs H1 x1 o1 => ?_
      cases o1 with
      | cons h1 h2 =>
        cases h2 with
        | cons h2 h3 =>
        cases h3 with
        | cons h3 h4 =>
        cases h4
        cases h1
        cases h2
        cases h3
        rw [Bool.and_eq_true] at hn
        obtain ⟨n1, n2⟩ := okI_iff.mp hn.1
        obtain ⟨n3, n4⟩ := okI_iff.mp hn.2
        exact ⟨m, n, -1, (m - n).toNat, rfl, RgC.neg n1 n2 n3 n4, k _ H1 (dwnV m (m - n).toNat) x1 da_dwn fun _ _ => yld_dwn⟩
    · cases hz
  · cases hz⟩
end
end Wd

set_option Elab.async false
set_option linter.all false
set_option maxRecDepth 100000
set_option maxHeartbeats 4000000
set_option autoImplicit false
namespace Wd
open PySem PyProof.Rows L2

/-! ### targets -/
def SG (g : TG) (f : D → Env → Option Env) : Prop := ∀ (N S : Addr → Prop) (H : Hp) (σ : L2.St) (ρ ρ' : Env) (v : V) (d : D), RelE N S H σ ρ → Da (cut H S) v d → f d ρ = some ρ' → ∀ Q : L2.St → Hp → Prop, (∀ σ', RelE N S H σ' ρ' → Q σ' H) → g v σ H Q
def sName (i : Nat) : D → Env → Option Env := fun d ρ => some (ρ.set i (some (.dat d)))
def sTup2 (i j : Nat) : D → Env → Option Env := fun d ρ => match d with
  | .tuple [a, b] => some ((ρ.set i (some (.dat a))).set j (some (.dat b)))
  | _ => none
theorem sg_name {i : Nat} : SG (gName i) (sName i) := fun N S H σ ρ ρ' v d R o h Q k => by
  cases h
  exact k _ (R.set o)
theorem sg_tup2 {K : PySem.W.Frag} {i j : Nat} : SG (gTup K 2 (gCons (gName i) (gCons (gName j) gNil))) (sTup2 i j) := fun N S H σ ρ ρ' v d R o h Q k => by
  unfold sTup2 at h
  split at h
  · cases h
    cases o with
    | tup ha hs =>
      obtain ⟨_, h1⟩ := cut_some ha
      cases hs with
      | cons h2 h3 =>
        cases h3 with
        | cons h4 h5 =>
          cases h5
          exact ⟨_, _, rfl, SqT.of h1, rfl, _, _, rfl, _, _, rfl, rfl, k _ ((R.set h2).set h4)⟩
  · cases h
structure Cg (X : Cx) (tg : Expr) (g : TG) (f : D → Env → Option Env) : Prop where
  pg : PG X tg g
  so : SG g f
section
variable {X : Cx} {pos p1 p2 : Pos}
theorem cg_name {i : Nat} {x : Str} (hN : X.N.Nodup) (hi : X.N[i]? = some x := by rfl) (hx : Loc X.env.scope x := by first | exact Or.inl rfl | exact Or.inr rfl) (hf : X.fn x = true ∨ X.env.scope.names.lookup x = some .local := by first | exact .inl rfl | exact .inr rfl) : Cg X (.Name x pos) (gName i) (sName i) := ⟨pg_name hN hi hx hf, sg_name⟩
theorem cg_tup2 {i j k : Nat} {x y : Str} (hc : X.calm = true) (h1 : Cg X (.Name x p1) (gName i) (sName i)) (h2 : Cg X (.Name y p2) (gName j) (sName j))
    (hn : (assignEach [.Name x p1, .Name y p2] X.env).length = 2 := by rfl) (hst : (assignEach [.Name x p1, .Name y p2] X.env).findIdx? (·.1) = none := by rfl)
    (hs1 : (assignEach [.Name x p1, .Name y p2] X.env).map (·.2) = assign (.Name x p1) X.env :: (assignEach [.Name y p2] X.env).map (·.2) := by rfl) (hs2 : (assignEach [.Name y p2] X.env).map (·.2) = assign (.Name y p2) X.env :: (assignEach [] X.env).map (·.2) := by rfl) :
    Cg X (.Tuple [.Name x p1, .Name y p2] k pos) (gTup X.K 2 (gCons (gName i) (gCons (gName j) gNil))) (sTup2 i j) :=
  ⟨pg_tup hc (pgs_cons h1.pg (pgs_cons h2.pg pgs_nil hs2) hs1) hn hst, sg_tup2⟩
end

/-! ### the slots of a comprehension's own names -/
def wipeE (ρ : Env) : List Nat → Env
  | [] => ρ
  | v :: vs => (wipeE ρ vs).set v none
theorem wipe_at (σ : L2.St) (i : Nat) : ∀ vs : List Nat, (wipe σ vs)[i]? = if i ∈ vs ∧ i < σ.length then some none else σ[i]?
  | [] => by unfold wipe; rw [if_neg (by simp)]
  | v :: vs => by
    unfold wipe
    by_cases h : v = i
    · subst h
      by_cases hl : v < σ.length
      · rw [List.getElem?_set_self (by rw [wipe_length]; exact hl), if_pos ⟨List.mem_cons_self, hl⟩]
      · rw [List.getElem?_eq_none (by rw [List.length_set, wipe_length]; omega), if_neg (by omega), List.getElem?_eq_none (by omega)]
    · rw [List.getElem?_set_ne h, wipe_at σ i vs]
      by_cases hm : i ∈ vs
      · simp [hm]
      · have : i ∉ v :: vs := by
          intro z
          rcases List.mem_cons.mp z with z | z
          · exact h z.symm
          · exact hm z
        rw [if_neg (fun z => hm z.1), if_neg (fun z => this z.1)]
theorem wipe_set {σ : L2.St} {vs : List Nat} {j : Nat} {x : Option V} (h : j ∈ vs) : wipe ((wipe σ vs).set j x) vs = wipe σ vs := by
  apply List.ext_getElem?
  intro i
  rw [wipe_at, List.length_set, wipe_length, wipe_at σ i vs]
  by_cases hi : i ∈ vs ∧ i < σ.length
  · rw [if_pos hi, if_pos hi]
  · rw [if_neg hi, if_neg hi]
    by_cases e : j = i
    · subst e
      have hl : ¬ j < σ.length := fun z => hi ⟨h, z⟩
      rw [List.getElem?_eq_none (by rw [List.length_set, wipe_length]; omega), List.getElem?_eq_none (by omega)]
    · rw [List.getElem?_set_ne e, wipe_at, if_neg hi]
section
variable {N S : Addr → Prop} {H : Hp} {σ : L2.St} {ρ : Env}
theorem RelE.drop {i : Nat} (h : RelE N S H σ ρ) : RelE N S H (σ.set i none) (ρ.set i none) := by
  have back : ∀ {j : Nat} {c : Cell}, (ρ.set i none)[j]? = some (some c) → i ≠ j ∧ ρ[j]? = some (some c) := fun {j c} e => by
    by_cases z : i = j
    · subst z
      by_cases hi : i < ρ.length
      · rw [List.getElem?_set_self hi] at e; cases e
      · rw [List.getElem?_eq_none (by rw [List.length_set]; omega)] at e; cases e
    · rw [List.getElem?_set_ne z] at e; exact ⟨z, e⟩
  refine ⟨by rw [List.length_set, List.length_set]; exact h.len, fun j c e => ?_, h.al, h.sub, fun j k cj ck a n ej ek mj mk sj sk => ?_⟩
  · obtain ⟨z, e'⟩ := back e
    rw [List.getElem?_set_ne z]
    exact h.cell j c e'
  · obtain ⟨z1, e1⟩ := back ej
    obtain ⟨z2, e2⟩ := back ek
    rw [List.getElem?_set_ne z1] at sj
    rw [List.getElem?_set_ne z2] at sk
    exact h.sep j k cj ck a n e1 e2 mj mk sj sk
theorem RelE.wipe (h : RelE N S H σ ρ) : ∀ vs : List Nat, RelE N S H (L2.wipe σ vs) (wipeE ρ vs)
  | [] => h
  | v :: vs => (RelE.wipe h vs).drop
end

/-! ### list comprehensions -/
def fmapO {α β : Type} (f : α → Option (Option β)) : List α → Option (List β)
  | [] => some []
  | a :: l => match f a with
    | some (some b) => match fmapO f l with
      | some bs => some (b :: bs)
      | none => none
    | some none => fmapO f l
    | none => none
theorem fmapO_len {α β : Type} {f : α → Option (Option β)} : ∀ {l : List α} {bs : List β}, fmapO f l = some bs → bs.length ≤ l.length
  | [], bs, h => by cases h; exact Nat.le_refl _
  | a :: l, bs, h => by
    unfold fmapO at h
    split at h
    · split at h
      · rename_i q
        cases h
        have := fmapO_len q
        rw [List.length_cons, List.length_cons]; omega
      · cases h
    · have := fmapO_len h
      rw [List.length_cons]; omega
    · cases h
def lcTurn (vs : List Nat) (g : D → Env → Option Env) (T : FT) (E : F1) (ρ : Env) (d : D) : Option (Option D) := match g d (wipeE ρ vs) with
  | some ρ1 => match T ρ1 with
    | some true => match E ρ1 with
      | some y => some (some y)
      | none => none
    | some false => some none
    | none => none
  | none => none
def fLc (L : FA) (vs : List Nat) (g : D → Env → Option Env) (T : FT) (E : F1) : FA := fun ρ => match L ρ with
  | some ds => if ds.length ≤ 100000 then fmapO (lcTurn vs g T E ρ) ds else none
  | none => none
/-- a target's slots are among the block's own -/
def GW (g : TG) (vs : List Nat) : Prop := ∀ (v : V) (σ : L2.St) (H : Hp) (Q : L2.St → Hp → Prop), g v (wipe σ vs) H Q → g v (wipe σ vs) H fun σ2 H2 => wipe σ2 vs = wipe σ vs ∧ Q σ2 H2
theorem gw_name {i : Nat} {vs : List Nat} (h : i ∈ vs := by decide) : GW (gName i) vs := fun v σ H Q q => ⟨wipe_set h, q⟩
theorem wipe_set2 {σ : L2.St} {vs : List Nat} {i j : Nat} {x y : Option V} (h : i ∈ vs) (h2 : j ∈ vs) : wipe (((wipe σ vs).set i x).set j y) vs = wipe σ vs := by
  apply List.ext_getElem?
  intro m
  have a1 := congrArg (fun l : L2.St => l[m]?) (wipe_set (σ := σ) (x := x) h)
  rw [wipe_at, List.length_set, wipe_length] at a1
  rw [wipe_at, List.length_set, List.length_set, wipe_length]
  by_cases hi : m ∈ vs ∧ m < σ.length
  · rw [if_pos hi] at a1 ⊢; exact a1
  · rw [if_neg hi] at a1 ⊢
    by_cases e : j = m
    · subst e
      have hl : ¬ j < σ.length := fun z => hi ⟨h2, z⟩
      rw [List.getElem?_eq_none (by rw [List.length_set, List.length_set, wipe_length]; omega), wipe_at, if_neg hi, List.getElem?_eq_none (by omega)]
    · rw [List.getElem?_set_ne e]; exact a1
theorem gw_tup2 {K : PySem.W.Frag} {i j : Nat} {vs : List Nat} (h : i ∈ vs := by decide) (h2 : j ∈ vs := by decide) : GW (gTup K 2 (gCons (gName i) (gCons (gName j) gNil))) vs := fun v σ H Q q => by
  obtain ⟨a, xs, e1, e2, e3, v1, r1, e4, v2, r2, e5, e6, q⟩ := q
  exact ⟨a, xs, e1, e2, e3, v1, r1, e4, v2, r2, e5, e6, wipe_set2 h h2, q⟩
structure Cts (X : Cx) (ifs : List Expr) (t : TT) (B : FT) : Prop where
  pt : PTs X ifs t
  so : ST t B
def fYes : FT := fun _ => some true
theorem cts_nil {X : Cx} : Cts X [] tYes fYes := ⟨pts_nil, fun N S H σ ρ b R h Q k => by cases h; exact k H (Evl.Ex.refl H)⟩
theorem cts_one {X : Cx} {c : Expr} {t : TT} {B : FT} (h : Ct X c t B) : Cts X [c] t B := ⟨pts_one h.pt, h.so⟩
theorem so_lc {wi : TI} {g : TG} {tt : TT} {te : TE} {vs : List Nat} {L : FA} {f : D → Env → Option Env} {T : FT} {E : F1} (hi : SI wi L) (hg : SG g f) (hw : GW g vs) (ht : ST tt T) (he : SE te E) : SL (tLc wi g tt te vs) (fLc L vs f T E) := fun N S H σ ρ ys R hz Q k => by
  unfold fLc at hz
  split at hz
  · rename_i ds e1
    split at hz
    · rename_i hlen
      refine hi N S H σ ρ ds R e1 _ fun J H1 xs x1 o1 yl => fun Dl hD => ?_
      have R1 : RelE N S H1 σ ρ := R.mono x1
      have x2 : Ex H1 (upd H1 Dl (.lst [])) := Evl.Ex.new hD
      have hxl := o1.length
      refine ⟨fun i m H' => m = xs.length - i ∧ i ≤ xs.length ∧ Ex H1 H' ∧ ∃ (acc : List V) (accD rst : List D), H' Dl = some (.lst acc) ∧ DaAll (cut H' fun a => S a ∨ a = Dl) acc accD ∧ acc.length ≤ i ∧ fmapO (lcTurn vs f T E ρ) (ds.drop i) = some rst ∧ accD ++ rst = ys,
        ⟨xs.length, by simp, Nat.zero_le _, x2, [], [], ys, upd_same, .nil, Nat.le_refl _, hz, rfl⟩, ?_⟩
      rintro i m H' ⟨rfl, hile, x3, acc, accD, rst, hacc, oacc, hal, hrst, hys⟩
      have xc : Ex (cut H1 S) (cut H' fun a => S a ∨ a = Dl) := cut_new hD x3
      have xH : Ex (cut H1 S) H' := Evl.Ex.trans xc cut_ex
      obtain ⟨ygo, yst⟩ := yl H' xH
      by_cases hlt : i < xs.length
      · obtain ⟨x, hx⟩ : ∃ x, xs[i]? = some x := ⟨xs[i], List.getElem?_eq_getElem hlt⟩
        obtain ⟨g1, g2⟩ := ygo i x hx
        have hdl : i < ds.length := by rw [← hxl]; exact hlt
        have hdd : ds.drop i = ds[i] :: ds.drop (i + 1) := List.drop_eq_getElem_cons hdl
        have hdi : ds[i]? = some ds[i] := List.getElem?_eq_getElem hdl
        obtain ⟨x', hx', ox⟩ := o1.get hdi
        rw [hx] at hx'
        obtain rfl := Option.some.inj hx'
        have R3 : RelE N (fun a => S a ∨ a = Dl) H' σ ρ := R1.new hD hacc x3
        have ox3 : Da (cut H' fun a => S a ∨ a = Dl) x ds[i] := Da.mono xc _ _ ox
        rw [hdd] at hrst
        unfold fmapO at hrst
        refine .inr ⟨g1, fun H'' => Ex H1 H'' ∧ ∃ (acc : List V) (accD rst : List D), H'' Dl = some (.lst acc) ∧ DaAll (cut H'' fun a => S a ∨ a = Dl) acc accD ∧ acc.length ≤ i + 1 ∧ fmapO (lcTurn vs f T E ρ) (ds.drop (i + 1)) = some rst ∧ accD ++ rst = ys,
          fun H'' ⟨y1, y2⟩ => ⟨xs.length - (i + 1), by omega, rfl, hlt, y1, y2⟩, fun x'' H'' hy => ?_⟩
        obtain ⟨rfl, rfl⟩ := g2 x'' H'' hy
        -- the turn
        cases hturn : lcTurn vs f T E ρ ds[i] with
        | none => rw [hturn] at hrst; cases hrst
        | some oy =>
          rw [hturn] at hrst
          unfold lcTurn at hturn
          split at hturn
          · rename_i ρ1 eg
            refine hw _ σ H'' _ (hg N _ H'' _ (wipeE ρ vs) ρ1 _ _ (R3.wipe vs) ox3 eg _ fun σ1 R4 => ?_)
            split at hturn
            · rename_i et
              refine ht N _ H'' σ1 ρ1 _ R4 et _ fun H3 x4 => ?_
              split at hturn
              · rename_i y ee
                cases hturn
                refine iteT (he N _ H3 σ1 ρ1 y (R4.mono x4) ee _ fun v H4 x5 o5 => ?_)
                have hD4 : H4 Dl = some (.lst acc) := x5 _ _ (x4 _ _ hacc)
                refine ⟨acc, hD4, Evl.sz_lt (by omega), Evl.Ex.mut ((x3.trans x4).trans x5) hD, ?_⟩
                simp only at hrst
                split at hrst
                · rename_i bs eb
                  cases hrst
                  refine ⟨acc ++ [v], accD ++ [y], bs, upd_same, ?_, by rw [List.length_append, List.length_singleton]; omega, eb, ?_⟩
                  · rw [cut_upd (.inr rfl)]
                    exact (DaAll.mono (cut_mono (x4.trans x5)) _ _ oacc).snoc o5
                  · rw [List.append_assoc]; exact hys
                · cases hrst
              · cases hturn
            · rename_i et
              cases hturn
              refine ht N _ H'' σ1 ρ1 _ R4 et _ fun H3 x4 => ?_
              refine iteF ⟨x3.trans x4, acc, accD, rst, x4 _ _ hacc, DaAll.mono (cut_mono x4) _ _ oacc, by omega, hrst, hys⟩
            · cases hturn
          · cases hturn
      · have ei : i = xs.length := by omega
        refine .inl ⟨yst i (by omega), ?_⟩
        rw [List.drop_eq_nil_of_le (by omega)] at hrst
        cases hrst
        rw [List.append_nil] at hys
        subst hys
        exact k Dl acc H' (x1.trans x3) (Evl.fresh_back x1 hD) hacc oacc
    · cases hz
  · cases hz
section
variable {X : Cx} {elt tg iter : Expr} {ifs : List Expr} {scope : Scope} {own : List (Str × Nat)} {pos : Pos} {wi : TI} {g : TG} {tt : TT} {te : TE} {L : FA} {f : D → Env → Option Env} {T : FT} {E : F1}
theorem cl_lc (hc : X.calm = true) (hN : X.N.Nodup) (hi : Ci X tg iter wi L) (ok : BlkOk X.N X.env.scope scope own)
    (hg : ∀ (s : Shared) (H : Hp) (C : Addr) (cl : List (Str × Addr)) (fp : List Addr), Cg (X.blk s H scope (compEnvC scope cl C X.env) fp) tg g f) (hw : GW g (own.map (·.2)))
    (ht : ∀ (s : Shared) (H : Hp) (C : Addr) (cl : List (Str × Addr)) (fp : List Addr), Cts (X.blk s H scope (compEnvC scope cl C X.env) fp) ifs tt T)
    (he : ∀ (s : Shared) (H : Hp) (C : Addr) (cl : List (Str × Addr)) (fp : List Addr), Ce (X.blk s H scope (compEnvC scope cl C X.env) fp) elt te E) (hs : ∀ x, foldedSetIterable iter X.env x = pure x := by intro _; rfl) :
    Cl X (.ListComp elt [⟨tg, iter, ifs, 0⟩] scope pos) (tLc wi g tt te (own.map (·.2))) (fLc L (own.map (·.2)) f T E) :=
  ⟨pe_lc hc hN hi.pi ok (fun s H C cl fp => (hg s H C cl fp).pg) (fun s H C cl fp => (ht s H C cl fp).pt) (fun s H C cl fp => (he s H C cl fp).pe) hs,
    so_lc hi.so (hg {} (fun _ => none) 0 [] []).so hw (ht {} (fun _ => none) 0 [] []).so (he {} (fun _ => none) 0 [] []).so⟩
end
end Wd

set_option Elab.async false
set_option linter.all false
set_option maxRecDepth 100000
set_option maxHeartbeats 4000000
set_option autoImplicit false
namespace Wd
open PySem PyProof.Rows L2

/-! ### what a statement comes to -/
inductive Out where
  | nx (ρ : Env)
  | bk (ρ : Env)
  | ct (ρ : Env)
  | rt (d : D)
  | no
abbrev FS := Env → Out
/-- N, H0: what the caller owns, the heap at the entry -/
structure RelS (N : Addr → Prop) (H0 : Hp) (S : Addr → Prop) (H : Hp) (σ : L2.St) (ρ : Env) : Prop where
  e : RelE N S H σ ρ
  ex : Ex H0 H
  new : ∀ a, S a → ¬ N a → H0 a = none
def OutOK (N : Addr → Prop) (H0 : Hp) (E : Ends) : Out → Prop
  | .nx ρ => ∀ S H σ, RelS N H0 S H σ ρ → E.nx σ H
  | .bk ρ => ∀ S H σ, RelS N H0 S H σ ρ → E.bk σ H
  | .ct ρ => ∀ S H σ, RelS N H0 S H σ ρ → E.ct σ H
  | .rt d => ∀ v H, Ex H0 H → Da (cut H N) v d → E.rt v H
  | .no => False
def SS (t : TS) (G : FS) : Prop := ∀ (N : Addr → Prop) (H0 : Hp) (S : Addr → Prop) (H : Hp) (σ : L2.St) (ρ : Env) (E : Ends), RelS N H0 S H σ ρ → OutOK N H0 E (G ρ) → t E σ H
structure Cs (X : Cx) (st : Stmt) (t : TS) (G : FS) : Prop where
  ps : PS X st t
  so : SS t G
structure Css (X : Cx) (st : List Stmt) (t : TS) (G : FS) : Prop where
  ps : PSs X st t
  so : SS t G

def gNext : FS := fun ρ => .nx ρ
def gSeq (G1 G2 : FS) : FS := fun ρ => match G1 ρ with
  | .nx ρ' => G2 ρ'
  | o => o
def gBreak : FS := fun ρ => .bk ρ
def gCont : FS := fun ρ => .ct ρ
def gRet (F : F1) : FS := fun ρ => match F (frz ρ) with
  | some d => .rt d
  | none => .no
def gIf (B : FT) (G1 G2 : FS) : FS := fun ρ => match B ρ with
  | some true => G1 ρ
  | some false => G2 ρ
  | none => .no
def gSet (i : Nat) (F : F1) : FS := fun ρ => match F ρ with
  | some d => .nx (ρ.set i (some (.dat d)))
  | none => .no
def gOwn (i : Nat) (L : FA) : FS := fun ρ => match L ρ with
  | some ds => .nx (ρ.set i (some (.own ds)))
  | none => .no
def gAsg (f : D → Env → Option Env) (F : F1) : FS := fun ρ => match F ρ with
  | some d => match f d ρ with
    | some ρ' => .nx ρ'
    | none => .no
  | none => .no
def gNo : FS := fun _ => .no
section
variable {X : Cx} {st : Stmt} {rest : List Stmt} {t u : TS} {e c : Expr} {te : TE} {tt : TT} {pos pos' : Pos} {F : F1} {B : FT} {G G2 : FS} {L : FA}
theorem RelS.mono {N : Addr → Prop} {H0 : Hp} {S : Addr → Prop} {H H' : Hp} {σ : L2.St} {ρ : Env} (x : Ex H H') (R : RelS N H0 S H σ ρ) : RelS N H0 S H' σ ρ := ⟨R.e.mono x, R.ex.trans x, R.new⟩
theorem css_nil : Css X [] tNext gNext := ⟨pss_nil, fun N H0 S H σ ρ E R k => k S H σ R⟩
theorem so_seq (h1 : SS t G) (h2 : SS u G2) : SS (tSeq t u) (gSeq G G2) := fun N H0 S H σ ρ E R k => by
  refine h1 N H0 S H σ ρ _ R ?_
  unfold gSeq at k
  cases e : G ρ with
  | nx ρ' =>
    rw [e] at k
    exact fun S' H' σ' R' => h2 N H0 S' H' σ' ρ' E R' k
  | bk ρ' => rw [e] at k; exact k
  | ct ρ' => rw [e] at k; exact k
  | rt d => rw [e] at k; exact k
  | no => rw [e] at k; exact k
theorem css_cons (h1 : Cs X st t G) (h2 : Css X rest u G2) : Css X (st :: rest) (tSeq t u) (gSeq G G2) := ⟨pss_cons h1.ps h2.ps, so_seq h1.so h2.so⟩
theorem css_one (h1 : Cs X st t G) : Css X [st] t G := ⟨pss_one h1.ps, h1.so⟩
theorem cs_break : Cs X (.Break pos) tBreak gBreak := ⟨ps_break, fun N H0 S H σ ρ E R k => k S H σ R⟩
theorem cs_continue : Cs X (.Continue pos) tCont gCont := ⟨ps_continue, fun N H0 S H σ ρ E R k => k S H σ R⟩
theorem cs_pass : Cs X (.Pass pos) tNext gNext := ⟨ps_pass, fun N H0 S H σ ρ E R k => k S H σ R⟩
theorem cs_doc {x : Str} {j : Nat} : Cs X (.Expr (.Constant (.str x) j pos) pos') tNext gNext := ⟨ps_doc, fun N H0 S H σ ρ E R k => k S H σ R⟩
theorem cs_never : Cs X st tNever gNo := ⟨ps_never, fun N H0 S H σ ρ E R k => k⟩
/-- a value handed back: one's own lists are given away -/
theorem cs_ret (h : Ce X e te F) : Cs X (.Return (some e) pos) (tRet te) (gRet F) := ⟨ps_ret h.pe, fun N H0 S H σ ρ E R k => by
  unfold gRet at k
  split at k
  · rename_i d e1
    -- what is not the caller's is free
    have R1 := R.e.frz
    have sub : ∀ a, N a → S a ∧ ¬ Mine σ ρ a := fun a q => ⟨R.e.sub a q, fun z => (R.e.mine_new z).1 q⟩
    exact h.so N _ H σ (frz ρ) d R1 e1 _ fun v H1 x1 o1 => k v H1 (R.ex.trans x1) (Da.mono (cut_less sub) _ _ o1)
  · exact k.elim⟩
theorem cs_retN : Cs X (.Return none pos) tRetN (fun _ => .rt .none) := ⟨ps_retN, fun N H0 S H σ ρ E R k => k _ H R.ex .non⟩
theorem cs_if {a b : List Stmt} (hc : Ct X c tt B) (ha : Css X a t G) (hb : Css X b u G2) : Cs X (.If c a b pos) (tIfS tt t u) (gIf B G G2) := ⟨ps_if hc.pt ha.ps hb.ps, fun N H0 S H σ ρ E R k => by
  unfold gIf at k
  split at k
  · rename_i e1
    exact hc.so N S H σ ρ _ R.e e1 _ fun H1 x1 => iteT (ha.so N H0 S H1 σ ρ E (R.mono x1) k)
  · rename_i e1
    exact hc.so N S H σ ρ _ R.e e1 _ fun H1 x1 => iteF (hb.so N H0 S H1 σ ρ E (R.mono x1) k)
  · exact k.elim⟩
theorem so_set {i : Nat} (h : SE te F) : SS (tAsg te (gName i)) (gSet i F) := fun N H0 S H σ ρ E R k => by
  unfold gSet at k
  split at k
  · rename_i d e1
    refine h N S H σ ρ d R.e e1 _ fun v H1 x1 o1 => ?_
    exact k S H1 _ ⟨(R.e.mono x1).set o1, R.ex.trans x1, R.new⟩
  · exact k.elim
theorem cs_set {i : Nat} {x : Str} (hN : X.N.Nodup) (he : Ce X e te F) (hi : X.N[i]? = some x := by rfl) (hx : Loc X.env.scope x := by first | exact Or.inl rfl | exact Or.inr rfl) (hs : swapsWith e (some (.Name x pos')) pos.line X.env = pure false := by rfl) (hf : X.fn x = true ∨ X.env.scope.names.lookup x = some .local := by first | exact .inl rfl | exact .inr rfl) :
    Cs X (.Assign [.Name x pos'] e pos) (tAsg te (gName i)) (gSet i F) := ⟨ps_set hN hi hx he.pe hs hf, so_set he.so⟩
/-- x = [..], the comprehension stored at once -/
theorem cs_setPS {i : Nat} (hp : PS X st (tAsg te (gName i))) (h : SE te F) : Cs X st (tAsg te (gName i)) (gSet i F) := ⟨hp, so_set h⟩
theorem so_own {i : Nat} (h : SL te L) : SS (tAsg te (gName i)) (gOwn i L) := fun N H0 S H σ ρ E R k => by
  unfold gOwn at k
  split at k
  · rename_i ds e1
    refine h N S H σ ρ ds R.e e1 _ fun p vs H1 x1 hp h1 o1 => ?_
    refine k _ H1 _ ⟨R.e.setOwn hp x1 h1 o1, R.ex.trans x1, fun a q na => ?_⟩
    rcases q with q | q
    · exact R.new a q na
    · rw [q]; exact Evl.fresh_back R.ex hp
  · exact k.elim
theorem cs_own {i : Nat} {x : Str} (hN : X.N.Nodup) (he : Cl X e te L) (hi : X.N[i]? = some x := by rfl) (hx : Loc X.env.scope x := by first | exact Or.inl rfl | exact Or.inr rfl) (hs : swapsWith e (some (.Name x pos')) pos.line X.env = pure false := by rfl) (hf : X.fn x = true ∨ X.env.scope.names.lookup x = some .local := by first | exact .inl rfl | exact .inr rfl) :
    Cs X (.Assign [.Name x pos'] e pos) (tAsg te (gName i)) (gOwn i L) := ⟨ps_set hN hi hx he.pe hs hf, so_own he.so⟩
theorem cs_asg {tg : Expr} {g : TG} {f : D → Env → Option Env} (he : Ce X e te F) (hg : Cg X tg g f) (hs : swapsWithSole [tg] e pos.line X.env = pure false := by rfl) (hw : swappedStores [tg] e X.env = pure none := by rfl)
    (h1 : (assignEach [tg] X.env).map (·.2) = [assign tg X.env] := by rfl) : Cs X (.Assign [tg] e pos) (tAsg te g) (gAsg f F) := ⟨ps_asg he.pe hg.pg hs hw h1, fun N H0 S H σ ρ E R k => by
  unfold gAsg at k
  split at k
  · rename_i d e1
    split at k
    · rename_i ρ' e2
      refine he.so N S H σ ρ d R.e e1 _ fun v H1 x1 o1 => ?_
      exact hg.so N S H1 σ ρ ρ' v d (R.e.mono x1) o1 e2 _ fun σ' R' => k S H1 σ' ⟨R', R.ex.trans x1, R.new⟩
    · exact k.elim
  · exact k.elim⟩
/-- a, b = x, y -/
def gPar (i j : Nat) (A : FA) : FS := fun ρ => match A ρ with
  | some [a, b] => .nx ((ρ.set i (some (.dat a))).set j (some (.dat b)))
  | _ => .no
theorem so_par {i j : Nat} {ta : TA} {A : FA} (h : SA ta A) : SS (tPar i j ta) (gPar i j A) := fun N H0 S H σ ρ E R k => by
  unfold gPar at k
  split at k
  · rename_i a b e1
    refine h N S H σ ρ _ R.e e1 _ fun vs H1 x1 o1 => ?_
    cases o1 with
    | cons h1 h2 =>
      cases h2 with
      | cons h2 h3 =>
        cases h3
        exact ⟨_, _, rfl, k S H1 _ ⟨((R.e.mono x1).set h1).set h2, R.ex.trans x1, R.new⟩⟩
  · exact k.elim
theorem cs_par {i j : Nat} {x y : Str} {a b : Expr} {ta : TA} {A : FA} {px py pt : Pos} {kt k2 : Nat} {pt2 : Pos} (hc : X.calm = true) (hN : X.N.Nodup) (ha : Ca X [a, b] ta A) (hi : X.N[i]? = some x := by rfl) (hj : X.N[j]? = some y := by rfl) (hij : i ≠ j := by decide)
    (hx : X.env.scope.names.lookup x = some .local := by rfl) (hy : X.env.scope.names.lookup y = some .local := by rfl)
    (hw : swappedStores [.Tuple [.Name x px, .Name y py] kt pt] (.Tuple [a, b] k2 pt2) X.env = pure (some [x, y]) := by rfl)
    (hs : swapsWithSole [.Tuple [.Name x px, .Name y py] kt pt] (.Tuple [a, b] k2 pt2) pos.line X.env = pure false := by rfl) :
    Cs X (.Assign [.Tuple [.Name x px, .Name y py] kt pt] (.Tuple [a, b] k2 pt2) pos) (tPar i j ta) (gPar i j A) := ⟨ps_par hc hN hi hj hij hx hy ha.pa hw hs, so_par ha.so⟩
/-- x op= e -/
def gAug (i : Nat) (g : D → D → Option D) (F : F1) : FS := fun ρ => match fVar i ρ with
  | some a => match F ρ with
    | some b => match g a b with
      | some z => .nx (ρ.set i (some (.dat z)))
      | none => .no
    | none => .no
  | none => .no
theorem so_aug {i : Nat} {ti : TIp} {g : D → D → Option D} (hr : RD2 ti g) (h : SE te F) : SS (tAug i te ti) (gAug i g F) := fun N H0 S H σ ρ E R k => by
  unfold gAug at k
  split at k
  · rename_i a e0
    split at k
    · rename_i b e1
      split at k
      · rename_i z e2
        unfold fVar at e0
        split at e0
        · rename_i d' e3
          cases e0
          obtain ⟨v, sv, ok⟩ := R.e.cell i _ e3
          refine ⟨v, sv, ?_⟩
          refine h N S H σ ρ b R.e e1 _ fun w H1 x1 o1 => ?_
          exact hr S H1 v w a b z (R.e.al.mono x1) (Da.mono (cut_mono x1) _ _ ok) o1 e2 _ fun u H2 x2 o2 => k S H2 _ ⟨(R.e.mono (x1.trans x2)).set o2, R.ex.trans (x1.trans x2), R.new⟩
        · cases e0
      · exact k.elim
    · exact k.elim
  · exact k.elim
theorem cs_aug {i : Nat} {x : Str} {op : Operator} {ti : TIp} {g : D → D → Option D} (hN : X.N.Nodup) (ho : PIp X op ti) (hr : RD2 ti g) (he : Ce X e te F) (hi : X.N[i]? = some x := by rfl) (hx : Loc X.env.scope x := by first | exact Or.inl rfl | exact Or.inr rfl) (hf : X.fn x = true ∨ X.env.scope.names.lookup x = some .local := by first | exact .inl rfl | exact .inr rfl) :
    Cs X (.AugAssign (.Name x pos') op e pos) (tAug i te ti) (gAug i g F) := ⟨ps_aug hN hi hx he.pe ho hf, so_aug hr he.so⟩
/-- x.append(e), x one's own -/
def gApp (i : Nat) (F : F1) : FS := fun ρ => match ρ[i]? with
  | some (some (.own ds)) => match F ρ with
    | some d => if ds.length < 100000 then .nx (ρ.set i (some (.own (ds ++ [d])))) else .no
    | none => .no
  | _ => .no
theorem so_appd {K : PySem.W.Frag} {i : Nat} (h : SE te F) : SS (tDrop (tBM K "list" rAppend (tVar i) (tCons te tNil))) (gApp i F) := fun N H0 S H σ ρ E R k => by
  unfold gApp at k
  split at k
  · rename_i ds e0
    split at k
    · rename_i d e1
      split at k
      · rename_i hl
        obtain ⟨v, sv, p, vs, rfl, sp, np, hp, hv⟩ := R.e.cell i _ e0
        refine ⟨.ref p, sv, .inl ⟨rfl, vs, SqL.of hp⟩, ?_⟩
        refine h N S H σ ρ d R.e e1 _ fun w H1 x1 o1 => ?_
        have R1 := R.mono x1
        have hp1 := x1 _ _ hp
        refine ⟨p, vs, w, rfl, rfl, hp1, Evl.sz_lt (by rw [hv.length]; exact hl), ?_⟩
        exact k S _ σ ⟨R1.e.put e0 sv ((DaAll.mono (cut_mono x1) _ _ hv).snoc o1), Evl.Ex.mut R1.ex (R1.new p sp np), R1.new⟩
      · exact k.elim
    · exact k.elim
  · exact k.elim
theorem cs_app {i : Nat} {x : Str} {p1 p2 : Pos} (he : Ce X e te F) (hi : X.N[i]? = some x := by rfl) (hv : Vis X.env.scope x := by first | exact Or.inl rfl | exact Or.inr (Or.inl rfl) | exact Or.inr (Or.inr rfl)) (hs : swapsWith (.Call (.Attribute (.Name x p1) "append" p2) [e] [] pos) none pos'.line X.env = pure false := by rfl)
    (h1 : (x == ("__debug__" : Str)) = false := by decide) (h2 : (x == ("__classdict__" : Str)) = false := by decide) (hp : PE X (.Call (.Attribute (.Name x p1) "append" p2) [e] [] pos) (tBM X.K "list" rAppend (tVar i) (tCons te tNil))) :
    Cs X (.Expr (.Call (.Attribute (.Name x p1) "append" p2) [e] [] pos) pos') (tDrop (tBM X.K "list" rAppend (tVar i) (tCons te tNil))) (gApp i F) := ⟨ps_expr hp hs, so_appd he.so⟩
end

/-! ### loops -/
def loop (g : D → Env → Option Env) (B : FS) : List D → FS
  | [], ρ => .nx ρ
  | d :: ds, ρ => match g d ρ with
    | some ρ1 => match B ρ1 with
      | .nx ρ2 => loop g B ds ρ2
      | .ct ρ2 => loop g B ds ρ2
      | .bk ρ2 => .nx ρ2
      | .rt d => .rt d
      | .no => .no
    | none => .no
def gFor (L : FA) (g : D → Env → Option Env) (B : FS) : FS := fun ρ => match L ρ with
  | some ds => loop g B ds ρ
  | none => .no
def whileF (T : FT) (B : FS) : Nat → FS
  | 0, _ => .no
  | k + 1, ρ => match T ρ with
    | some true => match B ρ with
      | .nx ρ2 => whileF T B k ρ2
      | .ct ρ2 => whileF T B k ρ2
      | .bk ρ2 => .nx ρ2
      | .rt d => .rt d
      | .no => .no
    | some false => .nx ρ
    | none => .no
open Classical in
/-- the heap without what the def owns by now -/
noncomputable def plain (N S : Addr → Prop) (H : Hp) : Hp := fun a => if S a ∧ ¬ N a then none else H a
section
variable {N S : Addr → Prop} {H0 H : Hp} {σ : L2.St} {ρ : Env} {a : Addr} {o : HO}
theorem plain_some (h : plain N S H a = some o) : ¬ (S a ∧ ¬ N a) ∧ H a = some o := by
  unfold plain at h
  by_cases q : S a ∧ ¬ N a
  · rw [if_pos q] at h; cases h
  · rw [if_neg q] at h; exact ⟨q, h⟩
theorem plain_of (q : ¬ (S a ∧ ¬ N a)) (h : H a = some o) : plain N S H a = some o := by
  unfold plain; rw [if_neg q]; exact h
theorem plain_none (q : S a) (n : ¬ N a) : plain N S H a = none := by
  unfold plain; rw [if_pos ⟨q, n⟩]
theorem RelS.base (R : RelS N H0 S H σ ρ) : Ex H0 (plain N S H) := fun a o q => plain_of (fun z => by rw [R.new a z.1 z.2] at q; cases q) (R.ex a o q)
theorem RelS.rebase (R : RelS N H0 S H σ ρ) : RelS N (plain N S H) S H σ ρ := ⟨R.e, fun a o q => (plain_some q).2, fun a q n => plain_none q n⟩
theorem RelS.back {H1 : Hp} (x : Ex H0 H1) (R : RelS N H1 S H σ ρ) : RelS N H0 S H σ ρ := ⟨R.e, x.trans R.ex, fun a q n => Evl.fresh_back x (R.new a q n)⟩
theorem OutOK.back {H1 : Hp} {E : Ends} {o : Out} (x : Ex H0 H1) (h : OutOK N H0 E o) : OutOK N H1 E o := by
  cases o with
  | nx ρ => exact fun S H σ R => h S H σ (R.back x)
  | bk ρ => exact fun S H σ R => h S H σ (R.back x)
  | ct ρ => exact fun S H σ R => h S H σ (R.back x)
  | rt d => exact fun v H y o => h v H (x.trans y) o
  | no => exact h
/-- what stood ahead of a loop, apart from one's own, stands through it -/
theorem RelS.stays {S1 : Addr → Prop} {H1 : Hp} (R : RelS N (plain N S H) S1 H1 σ ρ) (hN : ∀ a, N a → S a) : Ex (cut H S) (cut H1 S1) := fun a o q => by
  obtain ⟨q1, q2⟩ := cut_some q
  have q3 : plain N S H a = some o := plain_of (fun z => q1 z.1) q2
  refine cut_of (fun z => ?_) (R.ex a o q3)
  by_cases n : N a
  · exact q1 (hN a n)
  · rw [R.new a z n] at q3; cases q3
end
section
variable {X : Cx} {tg iter c : Expr} {body : List Stmt} {wi : TI} {g : TG} {tb : TS} {tt : TT} {pos : Pos} {L : FA} {f : D → Env → Option Env} {B : FS} {T : FT}
theorem so_for (hi : SI wi L) (hg : SG g f) (hb : SS tb B) : SS (tFor wi g tb) (gFor L f B) := fun N H0 S H σ ρ E R k => by
  unfold gFor at k
  split at k
  · rename_i ds e1
    refine hi N S H σ ρ ds R.e e1 _ fun J H1 xs x1 o1 yl => ?_
    have R1 : RelS N H0 S H1 σ ρ := R.mono x1
    have hxl := o1.length
    have k1 : OutOK N (plain N S H1) E (loop f B ds ρ) := k.back R1.base
    refine ⟨fun i m σ' H' => m = xs.length - i ∧ i ≤ xs.length ∧ ∃ (S' : Addr → Prop) (ρ' : Env), RelS N (plain N S H1) S' H' σ' ρ' ∧ OutOK N (plain N S H1) E (loop f B (ds.drop i) ρ'), ⟨xs.length, by simp, Nat.zero_le _, S, ρ, R1.rebase, k1⟩, ?_⟩
    rintro i m σ' H' ⟨rfl, hile, S', ρ', R', k'⟩
    have xc : Ex (cut H1 S) (cut H' S') := R'.stays R.e.sub
    obtain ⟨ygo, yst⟩ := yl H' (xc.trans cut_ex)
    by_cases hlt : i < xs.length
    · obtain ⟨x, hx⟩ : ∃ x, xs[i]? = some x := ⟨xs[i], List.getElem?_eq_getElem hlt⟩
      obtain ⟨g1, g2⟩ := ygo i x hx
      have hdl : i < ds.length := by rw [← hxl]; exact hlt
      have hdd : ds.drop i = ds[i] :: ds.drop (i + 1) := List.drop_eq_getElem_cons hdl
      have hdi : ds[i]? = some ds[i] := List.getElem?_eq_getElem hdl
      obtain ⟨x', hx', ox⟩ := o1.get hdi
      rw [hx] at hx'
      obtain rfl := Option.some.inj hx'
      rw [hdd] at k'
      unfold loop at k'
      split at k'
      · rename_i ρ1 eg
        refine .inr ⟨g1, fun σ2 H2 => ∃ (S2 : Addr → Prop) (ρ2 : Env), RelS N (plain N S H1) S2 H2 σ2 ρ2 ∧ OutOK N (plain N S H1) E (loop f B (ds.drop (i + 1)) ρ2), fun σ2 H2 ⟨S2, ρ2, r1, r2⟩ => ⟨xs.length - (i + 1), by omega, rfl, hlt, S2, ρ2, r1, r2⟩, fun x'' H'' hy => ?_⟩
        obtain ⟨rfl, rfl⟩ := g2 x'' H'' hy
        refine hg N S' H'' σ' ρ' ρ1 _ _ R'.e (Da.mono xc _ _ ox) eg _ fun σ1 R2 => ?_
        refine hb N (plain N S H1) S' H'' σ1 ρ1 _ ⟨R2, R'.ex, R'.new⟩ ?_
        split at k'
        · rename_i ρ2 eb
          rw [eb]
          exact fun S3 H3 σ3 R3 => ⟨S3, ρ2, R3, k'⟩
        · rename_i ρ2 eb
          rw [eb]
          exact fun S3 H3 σ3 R3 => ⟨S3, ρ2, R3, k'⟩
        · rename_i ρ2 eb
          rw [eb]
          exact k'
        · rename_i d eb
          rw [eb]
          exact k'
        · exact k'.elim
      · exact k'.elim
    · refine .inl ⟨yst i (by omega), ?_⟩
      rw [List.drop_eq_nil_of_le (by omega)] at k'
      exact k' S' H' σ' R'
  · exact k.elim
theorem cs_for (hc : X.calm = true) (hp : PassesOwn (model X.prog X.w) X.A X.env X.xe) (hi : Ci X tg iter wi L) (hg : Cg X tg g f) (hb : Css X body tb B) (hs : ∀ x, foldedSetIterable iter X.env x = pure x := by intro _; rfl) : Cs X (.For tg iter body [] pos) (tFor wi g tb) (gFor L f B) :=
  ⟨ps_for hp hc hi.pi hg.pg hb.ps hs, so_for hi.so hg.so hb.so⟩
theorem so_while (n : Nat) (ht : ST tt T) (hb : SS tb B) : SS (tWhile tt tb) (whileF T B n) := fun N H0 S H σ ρ E R k => by
  refine ⟨fun m σ' H' => ∃ (S' : Addr → Prop) (ρ' : Env), RelS N H0 S' H' σ' ρ' ∧ OutOK N H0 E (whileF T B m ρ'), ⟨n, S, ρ, R, k⟩, ?_⟩
  rintro m σ' H' ⟨S', ρ', R', k'⟩
  cases m with
  | zero => exact (show False from k').elim
  | succ m =>
    unfold whileF at k'
    split at k'
    · rename_i et
      refine ht N S' H' σ' ρ' _ R'.e et _ fun H1 x1 => iteT ?_
      refine ⟨fun σ2 H2 => ∃ (S2 : Addr → Prop) (ρ2 : Env), RelS N H0 S2 H2 σ2 ρ2 ∧ OutOK N H0 E (whileF T B m ρ2), fun σ2 H2 q => ⟨m, Nat.lt_succ_self m, q⟩, ?_⟩
      refine hb N H0 S' H1 σ' ρ' _ (R'.mono x1) ?_
      split at k'
      · rename_i ρ2 eb
        rw [eb]
        exact fun S3 H3 σ3 R3 => ⟨S3, ρ2, R3, k'⟩
      · rename_i ρ2 eb
        rw [eb]
        exact fun S3 H3 σ3 R3 => ⟨S3, ρ2, R3, k'⟩
      · rename_i ρ2 eb
        rw [eb]
        exact k'
      · rename_i d eb
        rw [eb]
        exact k'
      · exact k'.elim
    · rename_i et
      exact ht N S' H' σ' ρ' _ R'.e et _ fun H1 x1 => iteF (k' S' H1 σ' (R'.mono x1))
    · exact k'.elim
theorem cs_while (n : Nat) (hp : PassesOwn (model X.prog X.w) X.A X.env X.xe) (hc : Ct X c tt T) (hb : Css X body tb B) : Cs X (.While c body [] pos) (tWhile tt tb) (whileF T B n) := ⟨ps_while hp hc.pt hb.ps, so_while n hc.so hb.so⟩
end

/-! ### a def -/
def startE (n : Nat) (ds : List D) : Env := ds.map (fun d => some (.dat d)) ++ List.replicate (n - ds.length) none
def run (n p : Nat) (G : FS) : List D → Option D := fun ds => if ds.length = p then match G (startE n ds) with
  | .rt d => some d
  | .nx _ => some .none
  | _ => none else none
theorem startE_at {n : Nat} {ds : List D} {i : Nat} {c : Cell} (h : (startE n ds)[i]? = some (some c)) : ∃ d, ds[i]? = some d ∧ c = .dat d := by
  unfold startE at h
  by_cases hi : i < ds.length
  · rw [List.getElem?_append_left (by rw [List.length_map]; exact hi), List.getElem?_map, List.getElem?_eq_getElem hi] at h
    exact ⟨ds[i], List.getElem?_eq_getElem hi, (Option.some.inj (Option.some.inj h)).symm⟩
  · rw [List.getElem?_append_right (by rw [List.length_map]; omega), List.getElem?_replicate] at h
    split at h <;> cases h
theorem start_rel {S : Addr → Prop} {H : Hp} {vs : List V} {ds : List D} {M : List Str} (al : Alive S H) (h : DaAll (cut H S) vs ds) : RelE S S H (L2.start M vs) (startE M.length ds) := by
  have hl := h.length
  refine ⟨?_, fun i c q => ?_, al, fun _ z => z, fun i j ci cj a n ei ej mi mj si sj => ?_⟩
  · unfold L2.start startE
    rw [List.length_append, List.length_append, List.length_map, List.length_map, List.length_replicate, List.length_replicate, hl]
  · obtain ⟨d, e1, rfl⟩ := startE_at q
    obtain ⟨v, e2, o⟩ := h.get e1
    refine ⟨v, ?_, o⟩
    unfold L2.start
    have hi := (List.getElem?_eq_some_iff.mp e2).1
    rw [List.getElem?_append_left (by rw [List.length_map]; exact hi), List.getElem?_map, e2]
    rfl
  · obtain ⟨d, _, rfl⟩ := startE_at ei
    cases mi
section
variable {P : Program} {w : World} {K : PySem.W.Frag} {mg : Str → Option Value} {base : Heap}
theorem fn_data {x qual : Str} {st : Stmt} {f : Addr} {fd : FuncData} {M ps : List Str} {k : Nat} {G : FS} (F : Fun K x qual st f fd) (S : FnScope M ps (defScope st))
    (hbody : ∀ (cdv : Value) (A : Around) (outer : List PySem.Env) (s : Shared) (H : Hp) (E : XK), Room k (A.deeper (envOfC qual (defScope st) s.heap.objs.size f cdv)) → ∃ t, Css (cxOf CX0 P w K mg base M qual (defScope st) f cdv A outer s H E).nox (defBody st) t G) :
    FnOk P w K mg base CX0 (k + 1) f fd ps (spD (run M.length ps.length G)) := by
  refine F.ok S (fun vs H Q E h => ?_) (fun cdv A outer s H vs Q E hr h => ?_)
  · obtain ⟨S', ds, d, al, o, e, q⟩ := h
    unfold run at e
    split at e
    · rename_i hl
      rw [o.length, hl]
    · cases e
  · obtain ⟨S', ds, d, al, o, e, q⟩ := h
    obtain ⟨t, c⟩ := hbody cdv A outer s H E hr
    refine ⟨t, c.ps, ?_⟩
    unfold run at e
    split at e
    · refine c.so S' H S' H _ _ _ ⟨start_rel al o, Evl.Ex.refl H, fun a z n => (n z).elim⟩ ?_
      split at e
      · rename_i d' eg
        cases e
        rw [eg]
        exact fun v H1 x1 o1 => q v H1 x1 o1
      · rename_i ρ' eg
        cases e
        rw [eg]
        exact fun S1 H1 σ1 R1 => q .non H1 R1.ex .non
      · cases e
    · cases e
end
end Wd

set_option Elab.async false
set_option linter.all false
set_option maxRecDepth 100000
set_option maxHeartbeats 4000000
set_option autoImplicit false

/-! ### t[::-1] -/
namespace WdT
open PySem PyProof.Rows HT
section
variable {prog : Program} {w : World} {A : Around} {E : Value → Shared → Prop} {s : Shared}
theorem places_rev (n : Nat) : Builtin.Slice.slicePlaces ((n : Int) - 1) (-1) (-1) = n := by
  unfold Builtin.Slice.slicePlaces
  have h1 : ¬ ((-1 : Int) > 0) := by omega
  simp only [h1, if_false]
  split
  · rw [show ((n : Int) - 1 - -1 - 1) / (- (-1)) = (n : Int) - 1 by rw [Int.neg_neg, Int.ediv_one]; omega]
    omega
  · omega
theorem sliceApplied_rev {sl : Addr} {v : Value} {n : Nat} {Q : Int × Int × Nat → Shared → Prop} (hs : s.heap.IsSliceOf sl .none .none v) (pv : IsPart v (some (-1)))
    (h : Q ((n : Int) - 1, -1, n) s) : wpAny (model prog w) A (Builtin.Slice.sliceApplied (.ref sl) (pure (n : Int))) Q E s := by
  obtain ⟨os, hos, hcs, hds⟩ := id hs
  unfold Builtin.Slice.sliceApplied Builtin.Slice.sliceFields
  refine wpAny_bind (wpAny_bind (wpAny_field hos hds (x := .none) rfl (wpAny_bind (wpAny_field hos hds (x := .none) rfl (wpAny_bind (wpAny_field hos hds (x := v) rfl (wpAny_pure ?_)))))))
  refine wpAny_bind (slicePart_ pv ?_)
  show wpAny _ _ (if ((-1 : Int) == 0) = true then _ else _) _ _ s
  rw [if_neg (by decide)]
  refine wpAny_bind (slicePart_ .none (wpAny_bind (slicePart_ .none (wpAny_bind (wpAny_pure ?_)))))
  show wpAny _ _ (match Builtin.Slice.sliceAdjust none none (-1) (n : Int) with | (lo, hi) => pure (lo, (-1 : Int), Builtin.Slice.slicePlaces lo hi (-1))) _ _ s
  have e : Builtin.Slice.sliceAdjust none none (-1) (n : Int) = ((n : Int) - 1, -1) := by
    unfold Builtin.Slice.sliceAdjust
    simp
  rw [e]
  show wpAny _ _ (pure ((n : Int) - 1, (-1 : Int), Builtin.Slice.slicePlaces ((n : Int) - 1) (-1) (-1))) _ _ s
  rw [places_rev]
  exact wpAny_pure h
theorem pick_rev (l : List Value) : ((List.range l.length).filterMap fun (m : Nat) => l.toArray[((l.length : Int) - 1 + (m : Int) * (-1)).toNat]?) = l.reverse := by
  have e : ∀ (k : Nat), k ≤ l.length → ((List.range k).filterMap fun (m : Nat) => l.toArray[((l.length : Int) - 1 + (m : Int) * (-1)).toNat]?) = l.reverse.take k := by
    intro k
    induction k with
    | zero => intro _; rfl
    | succ k ih =>
      intro hk
      rw [List.range_succ, List.filterMap_append, ih (by omega), List.take_succ]
      congr 1
      have e1 : ((l.length : Int) - 1 + (k : Int) * (-1)).toNat = l.length - 1 - k := by omega
      have e2 : l.toArray[((l.length : Int) - 1 + (k : Int) * (-1)).toNat]? = l[l.length - 1 - k]? := by rw [e1, List.getElem?_toArray]
      have hk' : l.length - 1 - k < l.length := by omega
      have e3 : l.reverse[k]? = some l[l.length - 1 - k] := by
        rw [List.getElem?_reverse (by omega), List.getElem?_eq_getElem hk']
      show List.filterMap _ [k] = _
      rw [List.filterMap_cons, e2, List.getElem?_eq_getElem hk', e3]
      rfl
  have := e l.length (Nat.le_refl _)
  rw [this, List.take_of_length_le (by rw [List.length_reverse]; exact Nat.le_refl _)]
theorem getItem_tuple_rev {t sl : Addr} {items : Array Value} {v : Value} {Q : Value → Shared → Prop} (ht : IsTup s.heap t items) (hs : s.heap.IsSliceOf sl .none .none v) (pv : IsPart v (some (-1)))
    (h : Q (.ref s.heap.objs.size) { s with heap := s.heap.push { cls := .type "tuple", data := .seq items.toList.reverse.toArray } })
    (hsz : items.size ≤ sizeLine) : wpAny (model prog w) A (getItem (.ref t) (.ref sl)) Q E s := by
  have htake : sizeOk (.seq items.toList.reverse.toArray) := by
    show items.toList.reverse.toArray.size ≤ sizeLine
    rw [List.size_toArray, List.length_reverse, Array.length_toList]
    exact hsz
  obtain ⟨os, hos, hcs, hds⟩ := id hs
  have hTs : s.TypeIs (.ref sl) "slice" := ⟨os, hos, hcs⟩
  unfold getItem
  try with_reducible refine wpAny_holding ?_
  first | refine wpAny_bind (wpAny_pure ?_) | skip
  refine wpAny_bind (wpAny_sequenceKey ht.typeIs (by decide) ?_)
  refine wpAny_bind (wpAny_callSpecial?_slot (name := Str.ofString "__getitem__") ht.typeIs PyProof.Rows.slot_tuple_getitem
    (wpAny_call_entry PyProof.Rows.slot_tuple_getitem ht.typeIs entry_tuple_getitem ?_ (args_tuple_getitem _ _)))
  show wpAny _ _ (Builtin.Tuple.tupleItemsOf (.ref t) >>= _) _ _ s
  refine wpAny_bind (tupleItemsOf_ ht ?_)
  refine wpAny_bind (wpAny_typeOf hTs ?_)
  rw [if_pos (by decide)]
  refine wpAny_bind (sliceApplied_rev hs pv ?_)
  have hno : ¬ ((((items.size : Int) - 1) == 0 && (-1 : Int) == 1 && items.size == items.size) = true) := by
    intro q
    rw [Bool.and_eq_true, Bool.and_eq_true] at q
    exact absurd (eq_of_beq q.1.2) (by decide)
  show wpAny _ _ (if (((items.size : Int) - 1) == 0 && (-1 : Int) == 1 && items.size == items.size) = true then _ else _) _ _ s
  have ep := pick_rev items.toList
  rw [Array.length_toList, Array.toArray_toList] at ep
  rw [if_neg hno]
  have ep' : ((List.range items.size).filterMap fun (m : Nat) => items[((items.size : Int) - 1 + (m : Int) * (-1)).toNat]?).toArray = items.toList.reverse.toArray := by rw [ep]
  rw [ep']
  first
    | exact wpAny_bind (m := Builtin.Tuple.tupleExact _) (wpAny_newObj_type (wpAny_pure ⟨_, rfl, wpAny_pure h⟩) htake)
    | exact wpAny_bind (m := Builtin.Tuple.tupleExact _) (wpAny_newObj_type (wpAny_bind (wpAny_pure (wpAny_pure ⟨_, rfl, wpAny_pure h⟩))) htake)
    | exact wpAny_bind (wpAny_bind (m := Builtin.Tuple.tupleExact _) (wpAny_newObj_type (wpAny_pure (wpAny_pure ⟨_, rfl, wpAny_pure h⟩)) htake))
    | exact wpAny_bind (wpAny_bind (m := Builtin.Tuple.tupleExact _) (wpAny_newObj_type (wpAny_pure ⟨_, rfl, wpAny_pure h⟩) htake))
end
end WdT

namespace Wd
open PySem PyProof.Rows L2
def tRevT (K : PySem.W.Frag) (te : TE) : TE := fun σ H Q => te σ H fun x H1 => ∃ a xs, x = .ref a ∧ SqT K H1 a xs ∧ ∀ p, H1 p = none → Q (.ref p) (upd H1 p (.tup xs.reverse))
theorem pe_revT {X : Cx} {e : Expr} {te : TE} {k : Nat} {p1 p2 p3 pos : Pos} (he : PE X e te) : PE X (.Subscript e (.Slice none none (some (.UnaryOp .USub (.Constant (.int 1) k p1) p2)) p3) pos) (tRevT X.K te) := by
  refine ⟨fun pins s σ H Q I h => ?_⟩
  refine Subscript_ (thn (he.run pins s σ H _ I h) fun v s1 ⟨x, H1, I1, r1, q1⟩ => ?_)
  obtain ⟨a, xs, ex, hx, q⟩ := q1
  subst ex
  cases r1
  have hst : PO X (some (.UnaryOp .USub (.Constant (.int 1) k p1) p2)) (tPart (tUn (rU fun i => .int (-i)) (tC (.int 1)))) := po_some (pe_un un_neg pe_int)
  refine wpAny_Slice (thn (po_none.run pins s1 σ H1 (fun o H2 => o = none ∧ H2 = H1) I1 ⟨rfl, rfl⟩) fun vl s2 ⟨l, H2, I2, pl, el, e2⟩ => ?_)
  subst el e2
  refine thn (po_none.run pins s2 σ H2 (fun o H3 => o = none ∧ H3 = H2) I2 ⟨rfl, rfl⟩) fun vu s3 ⟨u, H3, I3, pu, eu, e3⟩ => ?_
  subst eu e3
  refine thn (hst.run pins s3 σ H3 (fun o H4 => o = some (-1) ∧ H4 = H3) I3 ⟨1, rfl, -1, rfl, rfl, rfl⟩) fun vs s4 ⟨o, H4, I4, ps, eo, e4⟩ => ?_
  subst eo e4
  have I5 : Inv X pins σ H4 { s4 with heap := s4.heap.push { cls := .type "slice", data := .fields #[vl, vu, vs] } } := I4.kept (t' := s4.toks) fun b ob q => Heap.get?_push_of_some _ q
  obtain ⟨its, r, ht, hz⟩ := I5.tuple hx
  have hlen := r.length
  cases pl
  cases pu
  show wpAny (model X.prog X.w) X.A (subscriptTail e (.Slice none none (some (.UnaryOp .USub (.Constant (.int 1) k p1) p2)) p3) (.ref a) (.ref s4.heap.objs.size)) (EP X pins σ Q) X.xe { s4 with heap := s4.heap.push { cls := .type "slice", data := .fields #[.none, .none, vs] } }
  refine tail_any (ops := [.ref a, .ref s4.heap.objs.size]) ht.typeIs (PyProof.Rows.slot_tuple_getitem.lookup) ?_ (by with_unfolding_all rfl)
  refine WdT.getItem_tuple_rev ht (Heap.IsSliceOf.new _ .none .none vs) ps ?_ (by rw [List.size_toArray]; omega)
  refine ⟨.ref _, _, I5.laid (t' := s4.toks) (o := .tup xs.reverse) (fun b ob q => Heap.get?_push_of_some _ q) (Nat.le_refl _) ?_, rfl, q _ (I5.hok.fresh (Nat.le_refl _))⟩
  exact ⟨by rw [List.length_reverse]; exact hz, _, r.reverse, IsTup.new _ _⟩
end Wd

set_option Elab.async false
set_option linter.all false
set_option maxRecDepth 100000
set_option maxHeartbeats 4000000
set_option autoImplicit false
namespace Wd
open PySem PyProof.Rows L2

theorem newL {H : Hp} {S : Addr → Prop} {p : Addr} {vs : List V} {ds : List D} (hp : H p = none) (al : Alive S H) (h : DaAll (cut H S) vs ds) : Ex H (upd H p (.lst vs)) ∧ Da (cut (upd H p (.lst vs)) S) (.ref p) (.list ds) :=
  ⟨Evl.Ex.new hp, .lst (cut_of (al.there hp) upd_same) (DaAll.mono (cut_mono (Evl.Ex.new hp)) _ _ h)⟩
theorem newT {H : Hp} {S : Addr → Prop} {p : Addr} {vs : List V} {ds : List D} (hp : H p = none) (al : Alive S H) (h : DaAll (cut H S) vs ds) : Ex H (upd H p (.tup vs)) ∧ Da (cut (upd H p (.tup vs)) S) (.ref p) (.tuple ds) :=
  ⟨Evl.Ex.new hp, .tup (cut_of (al.there hp) upd_same) (DaAll.mono (cut_mono (Evl.Ex.new hp)) _ _ h)⟩

/-! ### + -/
def dAdd : D → D → Option D
  | .int i, .int j => some (.int (i + j))
  | .tuple a, .tuple b => if a.length + b.length ≤ 100000 then some (.tuple (a ++ b)) else none
  | .list a, .list b => if a.length + b.length ≤ 100000 then some (.list (a ++ b)) else none
  | .str a, .str b => if a.length + b.length ≤ 100000 then some (.str (a ++ b)) else none
  | _, _ => none
def rPlus (K : PySem.W.Frag) : R2 := fun x y H Q => (∃ i j, x = V.int i ∧ y = V.int j ∧ Q (.int (i + j)) H) ∨ (rCatA K x y H Q ∨ (rCat x y H Q ∨ ∃ i j, x = V.str i ∧ y = V.str j ∧ i.length + j.length ≤ sizeLine ∧ Q (.str (i ++ j)) H))
theorem op_plus {X : Cx} : OpR X (binaryOp .Add) (rPlus X.K) := op_add.or (op_catA.or (op_cat.or op_add_str))
theorem rd_plus {K : PySem.W.Frag} : RD2 (rPlus K) dAdd := fun S H x y d e z al hx hy hz Q k => by
  unfold dAdd at hz
  split at hz
  · cases hz; cases hx; cases hy
    exact .inl ⟨_, _, rfl, rfl, k _ H (Evl.Ex.refl H) (.int _)⟩
  · split at hz
    · rename_i hl
      cases hz
      cases hx with
      | tup ha hs =>
      cases hy with
      | tup hb ht =>
      have l1 := hs.length
      have l2 := ht.length
      refine .inr (.inl ⟨_, _, _, _, rfl, rfl, SqT.of (cut_some ha).2, SqT.of (cut_some hb).2, sz_of (by rw [l1, l2]; exact hl), fun e => ?_, fun e1 e2 => ?_, fun _ _ p hp => ?_⟩)
      · subst e
        cases hs
        exact k _ H (Evl.Ex.refl H) (.tup hb ht)
      · subst e2
        cases ht
        rw [List.append_nil] at k
        exact k _ H (Evl.Ex.refl H) (.tup ha hs)
      · exact k _ _ (newT hp al (hs.append ht)).1 (newT hp al (hs.append ht)).2
    · cases hz
  · split at hz
    · rename_i hl
      cases hz
      cases hx with
      | lst ha hs =>
      cases hy with
      | lst hb ht =>
      have l1 := hs.length
      have l2 := ht.length
      refine .inr (.inr (.inl ⟨_, _, _, _, rfl, rfl, (cut_some ha).2, (cut_some hb).2, sz_of (by rw [l1, l2]; exact hl), fun p hp => ?_⟩))
      exact k _ _ (newL hp al (hs.append ht)).1 (newL hp al (hs.append ht)).2
    · cases hz
  · split at hz
    · rename_i hl
      cases hz; cases hx; cases hy
      exact .inr (.inr (.inr ⟨_, _, rfl, rfl, sz_of hl, k _ H (Evl.Ex.refl H) (.str _)⟩))
    · cases hz
  · cases hz

/-! ### -, *, %, // -/
def dSub : D → D → Option D
  | .int i, .int j => some (.int (i - j))
  | _, _ => none
theorem rd_sub : RD2 (rI0 fun i j => .int (i - j)) dSub := fun S H x y d e z al hx hy hz Q k => by
  unfold dSub at hz
  split at hz
  · cases hz; cases hx; cases hy
    exact ⟨_, _, rfl, rfl, k _ H (Evl.Ex.refl H) (.int _)⟩
  · cases hz
def smallI (i : Int) : Bool := decide (-(2 ^ 64) < i) && decide (i < 2 ^ 64)
theorem smallI_iff {i : Int} : smallI i = true ↔ -(2 ^ 64) < i ∧ i < 2 ^ 64 := by unfold smallI; rw [Bool.and_eq_true, decide_eq_true_eq, decide_eq_true_eq]
def strRep (x : Str) (n : Nat) : Str := ⟨(List.replicate n x.cps.toList).flatten.toArray⟩
def dMul : D → D → Option D
  | .int i, .int j => if (smallI i || smallI j) = true then some (.int (i * j)) else none
  | .list a, .int n => if a.length * n.toNat ≤ 100000 ∧ n < 2 ^ 62 ∧ -(2 ^ 62) ≤ n then some (.list (List.replicate n.toNat a).flatten) else none
  | .str a, .int n => if a.length * n.toNat ≤ 100000 ∧ n ≤ 100000 ∧ -(2 ^ 62) ≤ n then some (.str (strRep a n.toNat)) else none
  | _, _ => none
def rRepS : R2 := fun x y H Q => ∃ z n, x = .str z ∧ y = .int n ∧ z.length * n.toNat ≤ 100000 ∧ n ≤ 100000 ∧ -(2 ^ 62) ≤ n ∧ Q (.str (strRep z n.toNat)) H
theorem foldl_cps (x : Array Nat) : ∀ (k : Nat) (acc : Array Nat), List.foldl (fun a b => a ++ b) acc (List.replicate k x) = acc ++ (List.replicate k x.toList).flatten.toArray
  | 0, acc => by simp
  | k + 1, acc => by
    rw [List.replicate_succ, List.foldl_cons, foldl_cps x k, List.replicate_succ, List.flatten_cons]
    apply Array.toList_inj.mp
    simp
theorem op_repS {X : Cx} : OpR X (binaryOp .Mult) rRepS := by
  intro pins s σ H x y v u Q I rx ry h
  obtain ⟨z, n, rfl, rfl, hz, hn, hm, q⟩ := h
  obtain ⟨t, rfl⟩ := rx
  obtain ⟨t', rfl⟩ := ry
  refine PySem.P.mul_str ?_ (fun h1 h2 h3 => ?_) (fun h1 h2 => ?_) ?_
  · rw [decide_eq_false (by omega), decide_eq_false (by omega)]; rfl
  · have h4 : n ≠ 1 := fun e => by rw [e] at h2; simp at h2
    have h5 : (100000 : Int) ≤ (2 ^ 63 - 1) / n := by
      rw [Int.le_ediv_iff_mul_le (by omega)]
      omega
    have h6 : 1 ≤ n.toNat := by omega
    have h7 : z.length ≤ z.length * n.toNat := Nat.le_mul_of_pos_right _ h6
    omega
  · unfold Builtin.Str.tooLong
    have := sizeLine_eq
    exact decide_eq_false (by omega)
  · split
    · rename_i h1
      have e : strRep z n.toNat = Str.empty := by
        rw [show n.toNat = 0 by omega]
        rfl
      rw [e] at q
      exact ⟨by decide, .str _, H, I.tok _, ⟨_, rfl⟩, q⟩
    · split
      · rename_i h1 h2
        have e : strRep z n.toNat = z := by
          rw [Bool.or_eq_true] at h2
          rcases h2 with h2 | h2
          · have : n = 1 := eq_of_beq h2
            rw [this]
            unfold strRep
            simp
          · have e0 : z.cps = #[] := Array.eq_empty_of_size_eq_zero (by have := eq_of_beq h2; exact this)
            unfold strRep
            rw [e0]
            cases z
            simp only at e0
            subst e0
            simp
        rw [e] at q
        exact ⟨.str z, H, I, ⟨_, rfl⟩, q⟩
      · have e : (⟨(List.replicate n.toNat z.cps).foldl (· ++ ·) #[]⟩ : Str) = strRep z n.toNat := by
          unfold strRep
          rw [foldl_cps]
          simp
        rw [e]
        refine ⟨?_, .str _, H, I.tok _, ⟨_, rfl⟩, q⟩
        show (strRep z n.toNat).cps.size ≤ sizeLine
        unfold strRep
        rw [List.size_toArray, List.length_flatten, List.map_replicate, List.sum_replicate_nat]
        have := sizeLine_eq
        have hz' : z.cps.size * n.toNat ≤ 100000 := hz
        rw [Array.length_toList, Nat.mul_comm]
        omega
def rTimes : R2 := fun x y H Q => rI CMul (fun i j => .int (i * j)) x y H Q ∨ (rRep x y H Q ∨ rRepS x y H Q)
theorem op_times {X : Cx} : OpR X (binaryOp .Mult) rTimes := op_mul.or (op_rep.or op_repS)
theorem da_rep {H : Hp} {vs : List V} {ds : List D} (h : DaAll H vs ds) : ∀ n : Nat, DaAll H (List.replicate n vs).flatten (List.replicate n ds).flatten
  | 0 => .nil
  | n + 1 => by
    rw [List.replicate_succ, List.replicate_succ, List.flatten_cons, List.flatten_cons]
    exact h.append (da_rep h n)
theorem len_rep {α : Type} (l : List α) (n : Nat) : (List.replicate n l).flatten.length = n * l.length := by
  rw [List.length_flatten, List.map_replicate, List.sum_replicate_nat]
theorem rd_times : RD2 rTimes dMul := fun S H x y d e z al hx hy hz Q k => by
  unfold dMul at hz
  split at hz
  · split at hz
    · rename_i hs
      cases hz; cases hx; cases hy
      rw [Bool.or_eq_true] at hs
      exact .inl ⟨_, _, rfl, rfl, hs.elim (fun h => .inl (smallI_iff.mp h)) fun h => .inr (smallI_iff.mp h), k _ H (Evl.Ex.refl H) (.int _)⟩
    · cases hz
  · split at hz
    · rename_i hl
      cases hz
      cases hx with
      | lst ha hs =>
      cases hy
      have l1 := hs.length
      refine .inr (.inl ⟨_, _, _, rfl, rfl, (cut_some ha).2, by omega, by omega, sz_of (by rw [l1]; exact hl.1), fun p hp => ?_⟩)
      exact k _ _ (newL hp al (da_rep hs _)).1 (newL hp al (da_rep hs _)).2
    · cases hz
  · split at hz
    · rename_i hl
      cases hz; cases hx; cases hy
      exact .inr (.inr ⟨_, _, rfl, rfl, hl.1, hl.2.1, hl.2.2, k _ H (Evl.Ex.refl H) (.str _)⟩)
    · cases hz
  · cases hz
/-- [a] * n as a list just made -/
def fRepL (F : FA) (G : F1) : FA := fun ρ => match F ρ with
  | some a => match G ρ with
    | some (.int n) => if a.length * n.toNat ≤ 100000 ∧ n < 2 ^ 62 ∧ -(2 ^ 62) ≤ n then some (List.replicate n.toNat a).flatten else none
    | _ => none
  | none => none
theorem cl_rep {X : Cx} {a b : Expr} {ta tb : TE} {L : FA} {G : F1} {pos : Pos} (ha : Cl X a ta L) (hb : Ce X b tb G) : Cl X (.BinOp a .Mult b pos) (tOp rRep ta tb) (fRepL L G) := ⟨pe_op op_rep ha.pe hb.pe, fun N S H σ ρ z R h Q k => by
  unfold fRepL at h
  split at h
  · rename_i as e1
    split at h
    · rename_i n e2
      split at h
      · rename_i hl
        cases h
        refine ha.so N S H σ ρ as R e1 _ fun p vs H1 x1 hp h1 o1 => ?_
        have np : ¬ S p := R.al.there hp
        refine hb.so N S H1 σ ρ _ (R.mono x1) e2 _ fun v2 H2 x2 o2 => ?_
        cases o2
        have l1 := o1.length
        refine ⟨p, n, vs, rfl, rfl, x2 _ _ h1, by omega, by omega, sz_of (by rw [l1]; exact hl.1), fun q hq => ?_⟩
        have x3 : Ex H2 (upd H2 q (.lst (List.replicate n.toNat vs).flatten)) := Evl.Ex.new hq
        have o3 : DaAll (cut H1 S) vs as := DaAll.mono (cut_less fun a z => .inl z) _ _ o1
        refine k q _ _ ((x1.trans x2).trans x3) (Evl.fresh_back (x1.trans x2) hq) upd_same ?_
        exact da_rep (DaAll.mono (cut_new hq x3) _ _ (DaAll.mono (cut_mono x2) _ _ o3)) _
      · cases h
    · cases h
  · cases h⟩
def dMod : D → D → Option D
  | .int i, .int j => if 0 < j then some (.int (i % j)) else none
  | _, _ => none
theorem rd_mod : RD2 (rI (fun _ j => 0 < j) fun i j => .int (i % j)) dMod := fun S H x y d e z al hx hy hz Q k => by
  unfold dMod at hz
  split at hz
  · split at hz
    · rename_i h
      cases hz; cases hx; cases hy
      exact ⟨_, _, rfl, rfl, h, k _ H (Evl.Ex.refl H) (.int _)⟩
    · cases hz
  · cases hz
def dDiv : D → D → Option D
  | .int i, .int j => if 0 < j ∧ j < 1073741824 then some (.int (i / j)) else none
  | _, _ => none
theorem rd_div : RD2 (rI CDiv fun i j => .int (i / j)) dDiv := fun S H x y d e z al hx hy hz Q k => by
  unfold dDiv at hz
  split at hz
  · split at hz
    · rename_i h
      cases hz; cases hx; cases hy
      exact ⟨_, _, rfl, rfl, h, k _ H (Evl.Ex.refl H) (.int _)⟩
    · cases hz
  · cases hz
def dNeg : D → Option D
  | .int i => some (.int (-i))
  | _ => none
theorem rd_neg : RD1 (rU fun i => .int (-i)) dNeg := fun S H x d z al hx hz Q k => by
  unfold dNeg at hz
  split at hz
  · cases hz; cases hx
    exact ⟨_, rfl, k _ H (Evl.Ex.refl H) (.int _)⟩
  · cases hz

/-! ### comparisons -/
def dCmpI (p : Int → Int → Bool) : D → D → Option D
  | .int i, .int j => some (.bool (p i j))
  | _, _ => none
theorem rd_cmpI {p : Int → Int → Bool} : RD2 (rI0 fun i j => .bl (p i j)) (dCmpI p) := fun S H x y d e z al hx hy hz Q k => by
  unfold dCmpI at hz
  split at hz
  · cases hz; cases hx; cases hy
    exact ⟨_, _, rfl, rfl, k _ H (Evl.Ex.refl H) (.bl _)⟩
  · cases hz
abbrev dLt := dCmpI fun i j => decide (i < j)
abbrev dLe := dCmpI fun i j => decide (i ≤ j)
abbrev dGt := dCmpI fun i j => decide (j < i)
abbrev dGe := dCmpI fun i j => decide (j ≤ i)
def dEq : D → D → Option D := fun d e => if (SeqAt.shaped d && SeqAt.shaped e) = true then some (.bool (PyData.eqv d e)) else none
def dNe : D → D → Option D := fun d e => if (SeqAt.shaped d && SeqAt.shaped e) = true then some (.bool (!PyData.eqv d e)) else none
theorem rd_eq {K : PySem.W.Frag} : RD2 (rEqD K) dEq := fun S H x y d e z al hx hy hz Q k => by
  unfold dEq at hz
  split at hz
  · rename_i h
    cases hz
    rw [Bool.and_eq_true] at h
    exact ⟨d, e, Da.dp K _ _ (Da.mono cut_ex _ _ hx), Da.dp K _ _ (Da.mono cut_ex _ _ hy), h.1, h.2, k _ H (Evl.Ex.refl H) (.bl _)⟩
  · cases hz
theorem rd_ne {K : PySem.W.Frag} : RD2 (rNeD K) dNe := fun S H x y d e z al hx hy hz Q k => by
  unfold dNe at hz
  split at hz
  · rename_i h
    cases hz
    rw [Bool.and_eq_true] at h
    exact ⟨d, e, Da.dp K _ _ (Da.mono cut_ex _ _ hx), Da.dp K _ _ (Da.mono cut_ex _ _ hy), h.1, h.2, k _ H (Evl.Ex.refl H) (.bl _)⟩
  · cases hz
/-- x in a list or a tuple -/
def dIn : D → D → Option D
  | d, .list ds => if (SeqAt.shaped d && SeqAt.shaped (.list ds)) = true then some (.bool (ds.any fun z => PyData.eqv z d)) else none
  | d, .tuple ds => if (SeqAt.shaped d && SeqAt.shaped (.tuple ds)) = true then some (.bool (ds.any fun z => PyData.eqv z d)) else none
  | _, _ => none
def dNotIn (d e : D) : Option D := match dIn d e with
  | some (.bool b) => some (.bool !b)
  | _ => none
def rInT (K : PySem.W.Frag) : R2 := fun x y H Q => ∃ d ds, Dp K H x d ∧ Dp K H y (.tuple ds) ∧ SeqAt.shaped d = true ∧ SeqAt.shaped (.tuple ds) = true ∧ Q (.bl (ds.any fun z => PyData.eqv z d)) H
def rNotInT (K : PySem.W.Frag) : R2 := fun x y H Q => ∃ d ds, Dp K H x d ∧ Dp K H y (.tuple ds) ∧ SeqAt.shaped d = true ∧ SeqAt.shaped (.tuple ds) = true ∧ Q (.bl (!ds.any fun z => PyData.eqv z d)) H
section
variable {X : Cx}
theorem op_inT (hu : X.A.units + 65 < cLine) : OpR X (compareOp .In) (rInT X.K) := by
  intro pins s σ H x y v u Q I rx ry h
  obtain ⟨d, ds, hd, he, sd, se, q⟩ := h
  obtain ⟨as, r1⟩ := Dp.reads I d x v hd rx
  obtain ⟨bs, r2⟩ := Dp.reads I (.tuple ds) y u he ry
  exact SeqAt.in_tuple_reads r2 r1 (SeqAt.canLay_of_shaped se) (SeqAt.canLay_of_shaped sd) (room_in_shaped sd hu) ⟨.bl _, H, I, rfl, q⟩
theorem op_notInT (hu : X.A.units + 65 < cLine) : OpR X (compareOp .NotIn) (rNotInT X.K) := by
  intro pins s σ H x y v u Q I rx ry h
  obtain ⟨d, ds, hd, he, sd, se, q⟩ := h
  obtain ⟨as, r1⟩ := Dp.reads I d x v hd rx
  obtain ⟨bs, r2⟩ := Dp.reads I (.tuple ds) y u he ry
  exact SeqAt.notIn_tuple_reads r2 r1 (SeqAt.canLay_of_shaped se) (SeqAt.canLay_of_shaped sd) (room_in_shaped sd hu) ⟨.bl _, H, I, rfl, q⟩
def rInS (K : PySem.W.Frag) : R2 := fun x y H Q => rInD K x y H Q ∨ rInT K x y H Q
def rNotInS (K : PySem.W.Frag) : R2 := fun x y H Q => rNotInD K x y H Q ∨ rNotInT K x y H Q
theorem units65 {k : Nat} (hr : Room k X.A) : X.A.units + 65 < cLine := by have := hr.un; omega
theorem op_inS (hu : X.A.units + 65 < cLine) : OpR X (compareOp .In) (rInS X.K) := (op_inD hu).or (op_inT hu)
theorem op_notInS (hu : X.A.units + 65 < cLine) : OpR X (compareOp .NotIn) (rNotInS X.K) := (op_notInD hu).or (op_notInT hu)
end
theorem rd_in {K : PySem.W.Frag} : RD2 (rInS K) dIn := fun S H x y d e z al hx hy hz Q k => by
  unfold dIn at hz
  split at hz
  · split at hz
    · rename_i h
      cases hz
      rw [Bool.and_eq_true] at h
      exact .inl ⟨_, _, Da.dp K _ _ (Da.mono cut_ex _ _ hx), Da.dp K _ _ (Da.mono cut_ex _ _ hy), h.1, h.2, k _ H (Evl.Ex.refl H) (.bl _)⟩
    · cases hz
  · split at hz
    · rename_i h
      cases hz
      rw [Bool.and_eq_true] at h
      exact .inr ⟨_, _, Da.dp K _ _ (Da.mono cut_ex _ _ hx), Da.dp K _ _ (Da.mono cut_ex _ _ hy), h.1, h.2, k _ H (Evl.Ex.refl H) (.bl _)⟩
    · cases hz
  · cases hz
theorem rd_notIn {K : PySem.W.Frag} : RD2 (rNotInS K) dNotIn := fun S H x y d e z al hx hy hz Q k => by
  unfold dNotIn at hz
  split at hz
  · rename_i b hb
    cases hz
    unfold dIn at hb
    split at hb
    · split at hb
      · rename_i h
        cases hb
        rw [Bool.and_eq_true] at h
        exact .inl ⟨_, _, Da.dp K _ _ (Da.mono cut_ex _ _ hx), Da.dp K _ _ (Da.mono cut_ex _ _ hy), h.1, h.2, k _ H (Evl.Ex.refl H) (.bl _)⟩
      · cases hb
    · split at hb
      · rename_i h
        cases hb
        rw [Bool.and_eq_true] at h
        exact .inr ⟨_, _, Da.dp K _ _ (Da.mono cut_ex _ _ hx), Da.dp K _ _ (Da.mono cut_ex _ _ hy), h.1, h.2, k _ H (Evl.Ex.refl H) (.bl _)⟩
      · cases hb
    · cases hb
  · cases hz
/-- is None -/
def dIsN : D → D → Option D
  | .none, .none => some (.bool true)
  | _, .none => some (.bool false)
  | _, _ => none
def dNotN (d e : D) : Option D := match dIsN d e with
  | some (.bool b) => some (.bool !b)
  | _ => none
theorem none_dec {H : Hp} {v : V} {d : D} (h : Da H v d) : ∃ b, dIsN d .none = some (.bool b) ∧ decide (v = V.non) = b := by
  cases h with
  | non => exact ⟨true, rfl, rfl⟩
  | bl b => exact ⟨false, rfl, decide_eq_false (fun h => by cases h)⟩
  | int i => exact ⟨false, rfl, decide_eq_false (fun h => by cases h)⟩
  | str x => exact ⟨false, rfl, decide_eq_false (fun h => by cases h)⟩
  | lst _ _ => exact ⟨false, rfl, decide_eq_false (fun h => by cases h)⟩
  | tup _ _ => exact ⟨false, rfl, decide_eq_false (fun h => by cases h)⟩
theorem dIsN_right {d e z : D} (h : dIsN d e = some z) : e = .none := by
  unfold dIsN at h
  split at h <;> first | rfl | cases h
theorem rd_isN : RD2 (fun x y H Q => y = .non ∧ Q (.bl (decide (x = .non))) H) dIsN := fun S H x y d e z al hx hy hz Q k => by
  obtain rfl := dIsN_right hz
  cases hy
  obtain ⟨b, h1, h2⟩ := none_dec hx
  rw [h1] at hz
  cases hz
  rw [h2]
  exact ⟨rfl, k _ H (Evl.Ex.refl H) (.bl b)⟩
theorem rd_notN : RD2 (fun x y H Q => y = .non ∧ Q (.bl (!decide (x = .non))) H) dNotN := fun S H x y d e z al hx hy hz Q k => by
  unfold dNotN at hz
  split at hz
  · rename_i b hb
    obtain rfl := dIsN_right hb
    cases hy
    obtain ⟨b', h1, h2⟩ := none_dec hx
    rw [h1] at hb
    cases hb
    cases hz
    rw [h2]
    exact ⟨rfl, k _ H (Evl.Ex.refl H) (.bl _)⟩
  · cases hz

/-! ### an item, a slice -/
def dIx : D → D → Option D
  | .list ds, .int i => atI ds i
  | .tuple ds, .int i => atI ds i
  | .str z, .int i => if z.length ≤ 100000 then (atI z.cps.toList i).map fun c => .str ⟨#[c]⟩ else none
  | _, _ => none
theorem da_atI {H : Hp} {vs : List V} {ds : List D} {i : Int} {d : D} (h : DaAll H vs ds) (e : atI ds i = some d) : ∃ v, atI vs i = some v ∧ Da H v d := by
  unfold atI at e ⊢
  rw [h.length]
  cases q : ixN ds.length i with
  | none => rw [q] at e; cases e
  | some j => rw [q] at e; exact h.get e
theorem rd_ix {K : PySem.W.Frag} : RD2 (rIx K) dIx := fun S H x y d e z al hx hy hz Q k => by
  unfold dIx at hz
  split at hz
  · cases hx with
    | lst ha hs =>
    cases hy
    obtain ⟨v, e1, o⟩ := da_atI hs hz
    exact .inl ⟨_, _, _, v, rfl, rfl, SqL.of (cut_some ha).2, e1, k v H (Evl.Ex.refl H) o⟩
  · cases hx with
    | tup ha hs =>
    cases hy
    obtain ⟨v, e1, o⟩ := da_atI hs hz
    exact .inr (.inl ⟨_, _, _, v, rfl, rfl, SqT.of (cut_some ha).2, e1, k v H (Evl.Ex.refl H) o⟩)
  · split at hz
    · rename_i hl
      cases hx; cases hy
      cases q : atI (_ : List Nat) _ with
      | none => rw [q] at hz; cases hz
      | some c =>
        rw [q] at hz
        cases hz
        exact .inr (.inr ⟨_, _, c, rfl, rfl, sz_of hl, q, k _ H (Evl.Ex.refl H) (.str _)⟩)
    · cases hz
  · cases hz
def cutL {α : Type} (xs : List α) (lo hi : Option Int) : List α := (xs.drop (HT.sIx xs.length 0 lo)).take (HT.sIx xs.length xs.length hi - HT.sIx xs.length 0 lo)
abbrev FO := Env → Option (Option Int)
def SO (t : TO) (F : FO) : Prop := ∀ (N S : Addr → Prop) (H : Hp) (σ : L2.St) (ρ : Env) (o : Option Int), RelE N S H σ ρ → F ρ = some o → ∀ Q : Option Int → Hp → Prop, (∀ H', Ex H H' → Q o H') → t σ H Q
structure Co (X : Cx) (e : Option Expr) (t : TO) (F : FO) : Prop where
  po : PO X e t
  so : SO t F
def fNoPart : FO := fun _ => some none
def fPart (F : F1) : FO := fun ρ => match F ρ with
  | some (.int i) => some (some i)
  | _ => none
def dSl (d : D) (lo hi : Option Int) : Option D := match d with
  | .list ds => some (.list (cutL ds lo hi))
  | .tuple ds => some (.tuple (cutL ds lo hi))
  | _ => none
def fSl (F : F1) (L U : FO) : F1 := fun ρ => match F ρ with
  | some d => match L ρ with
    | some lo => match U ρ with
      | some hi => dSl d lo hi
      | none => none
    | none => none
  | none => none
def rSlS (K : PySem.W.Frag) : V → Option Int → Option Int → Hp → VK → Prop := fun x lo hi H Q => rSlL K x lo hi H Q ∨ rSlA K x lo hi H Q
section
variable {X : Cx} {a : Expr} {te : TE} {tl th : TO} {F : F1} {L U : FO} {pos p2 : Pos} {lo hi : Option Expr}
theorem co_none : Co X none tNoPart fNoPart := ⟨po_none, fun N S H σ ρ o R h Q k => by cases h; exact k H (Evl.Ex.refl H)⟩
theorem co_some {e : Expr} (h : Ce X e te F) : Co X (some e) (tPart te) (fPart F) := ⟨po_some h.pe, fun N S H σ ρ o R hz Q k => by
  unfold fPart at hz
  split at hz
  · rename_i i e1
    cases hz
    refine h.so N S H σ ρ _ R e1 _ fun v H1 x1 o1 => ?_
    cases o1
    exact ⟨i, rfl, k H1 x1⟩
  · cases hz⟩
theorem cut_all {α : Type} {xs : List α} {lo hi : Option Int} (h : HT.sIx xs.length 0 lo = 0 ∧ HT.sIx xs.length xs.length hi = xs.length) : cutL xs lo hi = xs := by
  unfold cutL
  rw [h.1, h.2, List.drop_zero, Nat.sub_zero, List.take_length]
theorem da_cut {H : Hp} {vs : List V} {ds : List D} (h : DaAll H vs ds) (lo hi : Option Int) : DaAll H (cutL vs lo hi) (cutL ds lo hi) := by
  unfold cutL
  rw [h.length]
  exact (h.drop _).take _
theorem ce_sl (h : Ce X a te F) (hl : Co X lo tl L) (hu : Co X hi th U) : Ce X (.Subscript a (.Slice lo hi none p2) pos) (tSl (rSlS X.K) te tl th) (fSl F L U) := ⟨pe_slice (sl_list.or sl_tupA) h.pe hl.po hu.po, fun N S H σ ρ z R hz Q k => by
  unfold fSl at hz
  split at hz
  · rename_i d e1
    split at hz
    · rename_i l e2
      split at hz
      · rename_i u e3
        refine h.so N S H σ ρ d R e1 _ fun v H1 x1 o1 => ?_
        refine hl.so N S H1 σ ρ l (R.mono x1) e2 _ fun H2 x2 => ?_
        refine hu.so N S H2 σ ρ u (R.mono (x1.trans x2)) e3 _ fun H3 x3 => ?_
        have o3 := Da.mono (cut_mono (x2.trans x3)) _ _ o1
        have al := R.al.mono ((x1.trans x2).trans x3)
        have k3 : ∀ v H', Ex H3 H' → Da (cut H' S) v z → Q v H' := fun v H' x o => k v H' (((x1.trans x2).trans x3).trans x) o
        unfold dSl at hz
        split at hz
        · cases hz
          cases o3 with
          | lst ha hs =>
          refine .inl ⟨_, _, rfl, SqL.of (cut_some ha).2, fun p hp => ?_⟩
          exact k3 _ _ (newL hp al (da_cut hs l u)).1 (newL hp al (da_cut hs l u)).2
        · cases hz
          cases o3 with
          | tup ha hs =>
          refine .inr ⟨_, _, rfl, SqT.of (cut_some ha).2, fun hw => ?_, fun hw p hp => ?_⟩
          · rw [hs.length] at hw
            rw [cut_all hw] at k3
            exact k3 _ H3 (Evl.Ex.refl H3) (.tup ha hs)
          · exact k3 _ _ (newT hp al (da_cut hs l u)).1 (newT hp al (da_cut hs l u)).2
        · cases hz
      · cases hz
    · cases hz
  · cases hz⟩
def dRev : D → Option D
  | .list ds => some (.list ds.reverse)
  | .tuple ds => some (.tuple ds.reverse)
  | _ => none
def dRevL : D → Option D
  | .list ds => some (.list ds.reverse)
  | _ => none
def dRevT : D → Option D
  | .tuple ds => some (.tuple ds.reverse)
  | _ => none
theorem ce_revL {k : Nat} {p1 p3 : Pos} (h : Ce X a te F) : Ce X (.Subscript a (.Slice none none (some (.UnaryOp .USub (.Constant (.int 1) k p1) p2)) p3) pos) (tRevL X.K te) (fUn dRevL F) := ⟨pe_revL h.pe, fun N S H σ ρ z R hz Q k => by
  unfold fUn at hz
  split at hz
  · rename_i d e1
    unfold dRevL at hz
    split at hz
    · cases hz
      refine h.so N S H σ ρ _ R e1 _ fun v H1 x1 o1 => ?_
      cases o1 with
      | lst ha hs =>
      refine ⟨_, _, rfl, SqL.of (cut_some ha).2, fun p hp => ?_⟩
      exact k _ _ (x1.trans (newL hp (R.al.mono x1) hs.reverse).1) (newL hp (R.al.mono x1) hs.reverse).2
    · cases hz
  · cases hz⟩
theorem ce_revT {k : Nat} {p1 p3 : Pos} (h : Ce X a te F) : Ce X (.Subscript a (.Slice none none (some (.UnaryOp .USub (.Constant (.int 1) k p1) p2)) p3) pos) (tRevT X.K te) (fUn dRevT F) := ⟨pe_revT h.pe, fun N S H σ ρ z R hz Q k => by
  unfold fUn at hz
  split at hz
  · rename_i d e1
    unfold dRevT at hz
    split at hz
    · cases hz
      refine h.so N S H σ ρ _ R e1 _ fun v H1 x1 o1 => ?_
      cases o1 with
      | tup ha hs =>
      refine ⟨_, _, rfl, SqT.of (cut_some ha).2, fun p hp => ?_⟩
      exact k _ _ (x1.trans (newT hp (R.al.mono x1) hs.reverse).1) (newT hp (R.al.mono x1) hs.reverse).2
    · cases hz
  · cases hz⟩
end
end Wd

set_option Elab.async false
set_option linter.all false
set_option maxRecDepth 100000
set_option maxHeartbeats 4000000
set_option autoImplicit false

/-! ### sorting alike data, empty tuples among them -/
namespace WdS
open PySem PySem.W PySem.Calls PyProof.Rows PySem.SeqAt
theorem keyLt'_general (x y : Value) : keyLt' general' x y = oneLt' false x y := rfl
section
variable {prog : Program} {w : World} {A : Around} {E : Value → Shared → Prop} {s : Shared}
theorem call_tuple_lt {Q : Value → Shared → Prop} {l b : Addr} {items items2 : Array Value} {e r : Nat → Bool} (hl : s.heap.IsTuple l items) (hb : s.heap.IsTuple b items2)
    (he : ∀ j (h1 : j < items.size) (h2 : j < items2.size), EqAt A.in1 s items[j] items2[j] (e j)) (hr : ∀ j (h1 : j < items.size) (h2 : j < items2.size), e j = false → RcLt A.in1 s items[j] items2[j] (r j))
    (h : Q (.bool (firstLt e r (decide (items.size < items2.size)) (List.range (min items.size items2.size)))) s) : wpAny (model prog w) A (call (.builtin "tuple.__lt__") [.ref l, .ref b]) Q E s := by
  obtain ⟨⟨cls, dd, data, sl⟩, ho, hc, n, hd⟩ := id hl
  obtain ⟨⟨cls2, dd2, data2, sl2⟩, ho2, hc2, n2, hd2⟩ := id hb
  simp only at hc hd hc2 hd2
  subst hc hd hc2 hd2
  exact call_meets F.slot_tuple_lt ⟨_, ho, rfl⟩ F.entry_tuple_lt (F.args_tuple_lt_2 _ _) (tuple_ltAt l b items items2 n n2 dd dd2 sl sl2 e r) ⟨ho, ho2, he, hr, h⟩
theorem oneLt_tuples {xs ys : List PyData} {a b : Value} {as bs : List Addr} {Q : Bool → Shared → Prop} (ra : Reads s.heap a (.tuple xs) as) (rb : Reads s.heap b (.tuple ys) bs) (h : alike (.tuple xs) (.tuple ys) = true)
    (hu : A.units + min (PyData.depth (.tuple xs)) (PyData.depth (.tuple ys)) < cLine) (hq : Q (dataLt (.tuple xs) (.tuple ys)) s) : wpAny (model prog w) A (oneLt' true a b) Q E s := by
  have hal : alikeAll xs ys = true := by simpa [alike] using h
  cases ra with
  | @tuple l o vs n _ as₁ h1 h2 h3 h4 =>
    cases rb with
    | @tuple l' o' vs' n' _ bs₁ k1 k2 k3 k4 =>
      have n1 : vs.size = xs.length := by simpa using SeqAt.ReadsAll.length _ _ _ h4
      have n2 : vs'.size = ys.length := by simpa using SeqAt.ReadsAll.length _ _ _ k4
      rw [dataLt_tuple, ← firstLt_toks xs ys hal, ← n1, ← n2] at hq
      rw [oneLt'_eq]
      simp only [if_true]
      refine wpAny_bind (wpAny_cRoomFor (room_here hu) ?_)
      refine wpAny_bind (wpAny_callSpecialIfBound?_slot (T := "tuple") ⟨_, h1, h2⟩ F.slot_tuple_lt (call_tuple_lt (e := pairEq xs ys) (r := fun j => dataLt (xs.getD j .none) (ys.getD j .none)) ⟨_, h1, h2, _, h3⟩ ⟨_, k1, k2, _, k3⟩ (fun j j1 j2 => ?_) (fun j j1 j2 hj => ?_) ?_))
      · have := eqAt_alikeAll xs ys A.in1 s vs.toList vs'.toList _ _ h4 k4 hal (room_in hu) j (by simpa using j1) (by simpa using j2)
        simpa using this
      · have := rcLt_alikeAll xs ys A.in1 s vs.toList vs'.toList _ _ h4 k4 hal (room_in hu) j (by simpa using j1) (by simpa using j2) hj
        simpa using this
      · exact wpAny_truthy_bool hq
theorem mapM_to {α β : Type} {M : Model} {f : α → Sem β} {g : α → β} : ∀ (l : List α) {Q : List β → Shared → Prop}, (∀ v ∈ l, ∀ (Q' : β → Shared → Prop), Q' (g v) s → wpAny M A (f v) Q' E s) → Q (l.map g) s → wpAny M A (l.mapM f) Q E s
  | [], _, _, h => by rw [List.mapM_nil]; exact wpAny_pure h
  | x :: l, Q, hf, h => by
    rw [List.mapM_cons]
    exact wpAny_bind (hf x (.head _) _ (wpAny_bind (mapM_to l (Q := fun bs s' => wpAny M A (pure (g x :: bs)) Q E s') (fun v hv => hf v (.tail _ hv)) (wpAny_pure h))))
/-- all are tuples, one has no item: compared as objects -/
theorem kind_mixed {M : Model} {vs : List Value} {g : Value → Option Value} {Q : SortKind → Shared → Prop} (hT : ∀ v ∈ vs, ∃ a o xs n, v = .ref a ∧ s.heap.get? a = some o ∧ o.cls = .type "tuple" ∧ o.data = .seq xs n ∧ xs[0]? = g v) (h0 : ∃ v ∈ vs, g v = none)
    (hg : Q general' s) (ho : Q oneType' s) : wpAny M A (keyKind' vs.toArray) Q E s := by
  rw [keyKind'_eq, List.mapM_toArray, map_eq_pure_bind]
  refine wpAny_bind (wpAny_bind (mapM_to (g := g) _ (fun v hv Q' hq => ?_) (wpAny_pure ?_)))
  · obtain ⟨a, o, xs, n, rfl, e1, e2, e3, e4⟩ := hT v hv
    rw [kas_first_eq]
    refine wpAny_bind (Looks.here (show Looks M s.heap (typeOf (.ref a)) o.cls from (Looks.ld e1).andThen .now) ?_)
    rw [e2, if_neg (by first | decide | simp)]
    refine wpAny_bind (listItems_at e1 e3 (wpAny_pure ?_))
    rw [e4]
    exact hq
  · have hno : ¬ ((vs.map g).toArray.all fun x => x.isSome) = true := by
      obtain ⟨v, hv, e⟩ := h0
      intro z
      rw [List.all_toArray, List.all_eq_true] at z
      have := z (g v) (List.mem_map.mpr ⟨v, hv, rfl⟩)
      rw [e] at this
      cases this
    rw [if_neg hno]
    by_cases hf : ((vs.map g).toArray[0]?.bind id).isSome = true
    · rw [if_pos hf]
      exact wpAny_pure hg
    · rw [if_neg hf]
      rw [oneTypeOnly'_eq, List.mapM_toArray, map_eq_pure_bind]
      refine wpAny_bind (wpAny_bind (wpAny_bind (kas_mapM (r := Value.type "tuple") _ (fun v hv Q' hq => ?_) (wpAny_pure ?_))))
      · obtain ⟨a, o, xs, n, rfl, e1, e2, e3, e4⟩ := hT v hv
        have q : Looks M s.heap (typeOf (.ref a)) o.cls := (Looks.ld e1).andThen .now
        rw [e2] at q
        exact q.here hq
      · obtain ⟨v, hv, _⟩ := h0
        obtain ⟨v₁, rest, rfl⟩ : ∃ v₁ rest, vs = v₁ :: rest := by
          cases vs with
          | nil => cases hv
          | cons v₁ rest => exact ⟨v₁, rest, rfl⟩
        have hall : ((List.map (fun _ => Value.type "tuple") (v₁ :: rest)).toArray.all fun x => x == Value.type "tuple") = true := by
          simp only [List.all_toArray, List.all_map, List.all_eq_true]
          intro _ _
          rfl
        have h00 : (List.map (fun _ => Value.type "tuple") (v₁ :: rest)).toArray[0]? = some (Value.type "tuple") := by simp
        rw [h00]
        simp only [hall, if_true]
        exact wpAny_pure (wpAny_pure ho)
open Classical in
theorem SortsAt.mixed {vs : List Value} {ds : List PyData} (e : EachIs (fun v d => ∃ as, Reads s.heap v d as) vs ds) (hal : AllAlike ds) (ht : ∀ d ∈ ds, ∃ xs, d = .tuple xs) (h0 : PyData.tuple [] ∈ ds) (hu : ∀ d, d ∈ ds → A.units + d.depth < cLine) : SortsAt prog w A s (dataKind s.heap ds) vs := by
  have room : ∀ {d d' : PyData}, d ∈ ds → A.units + min d.depth d'.depth < cLine := fun {d d'} hd => Nat.lt_of_le_of_lt (Nat.add_le_add_left (Nat.min_le_left _ _) _) (hu d hd)
  have lg : H.LtAt prog w A s (dataKind s.heap ds) general' := by
    intro E x y a b Q ha hb hq
    obtain ⟨d, as, hd, ra, rfl⟩ := dataKind_inv ha
    obtain ⟨d', as', hd', rb, rfl⟩ := dataKind_inv hb
    rw [keyLt'_general]
    obtain ⟨xs, rfl⟩ := ht d hd
    exact oneLt_alike (fun z => by cases z) ra rb (hal _ hd d' hd') (fun z => by cases z) (room hd) hq
  have lo : H.LtAt prog w A s (dataKind s.heap ds) oneType' := by
    intro E x y a b Q ha hb hq
    obtain ⟨d, as, hd, ra, rfl⟩ := dataKind_inv ha
    obtain ⟨d', as', hd', rb, rfl⟩ := dataKind_inv hb
    rw [keyLt'_oneType]
    obtain ⟨xs, rfl⟩ := ht d hd
    obtain ⟨ys, rfl⟩ := ht d' hd'
    exact oneLt_tuples ra rb (hal _ hd _ hd') (room hd) hq
  -- the firsts
  let g : Value → Option Value := fun v => match v with
    | .ref a => match s.heap.get? a with
      | some o => match o.data with
        | .seq xs _ => xs[0]?
        | _ => none
      | none => none
    | _ => none
  have hT : ∀ v ∈ vs, ∃ a o xs n, v = .ref a ∧ s.heap.get? a = some o ∧ o.cls = .type "tuple" ∧ o.data = .seq xs n ∧ xs[0]? = g v := by
    intro v hv
    obtain ⟨d, hd, as, r⟩ := e.left v hv
    obtain ⟨xs, rfl⟩ := ht d hd
    cases r with
    | @tuple a o xs' n _ _ h1 h2 h3 h4 =>
      refine ⟨a, o, xs', n, rfl, h1, h2, h3, ?_⟩
      simp only [g, h1, h3]
  have hn : ∃ v ∈ vs, g v = none := by
    clear room lg lo hT hal hu ht
    induction e with
    | nil => cases h0
    | @cons v d vs' ds' h1 t ih =>
      rcases List.mem_cons.mp h0 with z | z
      · subst z
        obtain ⟨as, r⟩ := h1
        cases r with
        | @tuple a o xs' n _ _ e1 e2 e3 e4 =>
          refine ⟨_, List.mem_cons_self, ?_⟩
          have n1 : xs'.size = 0 := by simpa using SeqAt.ReadsAll.length _ _ _ e4
          simp only [g, e1, e3]
          exact Array.getElem?_eq_none (by omega)
      · obtain ⟨v', m, q⟩ := ih z
        exact ⟨v', List.mem_cons_of_mem _ m, q⟩
  refine ⟨fun v hv => ?_, ?_⟩
  · obtain ⟨d, hd, as, r⟩ := e.left v hv
    exact ⟨_, dataKind_some hal hd r⟩
  · -- which of the two kinds it is
    by_cases hf : ((vs.map g).toArray[0]?.bind id).isSome = true
    · refine ⟨general', lg, fun h2 E Q hq => ?_⟩
      rw [keyKind'_eq, List.mapM_toArray, map_eq_pure_bind]
      refine wpAny_bind (wpAny_bind (mapM_to (g := g) _ (fun v hv Q' hq' => ?_) (wpAny_pure ?_)))
      · obtain ⟨a, o, xs, n, rfl, e1, e2, e3, e4⟩ := hT v hv
        rw [kas_first_eq]
        refine wpAny_bind (Looks.here (show Looks (model prog w) s.heap (typeOf (.ref a)) o.cls from (Looks.ld e1).andThen .now) ?_)
        rw [e2, if_neg (by first | decide | simp)]
        refine wpAny_bind (listItems_at e1 e3 (wpAny_pure ?_))
        rw [e4]
        exact hq'
      · have hno : ¬ ((vs.map g).toArray.all fun x => x.isSome) = true := by
          obtain ⟨v, hv, e⟩ := hn
          intro z
          rw [List.all_toArray, List.all_eq_true] at z
          have := z (g v) (List.mem_map.mpr ⟨v, hv, rfl⟩)
          rw [e] at this
          cases this
        rw [if_neg hno, if_pos hf]
        exact wpAny_pure hq
    · refine ⟨oneType', lo, fun h2 E Q hq => ?_⟩
      rw [keyKind'_eq, List.mapM_toArray, map_eq_pure_bind]
      refine wpAny_bind (wpAny_bind (mapM_to (g := g) _ (fun v hv Q' hq' => ?_) (wpAny_pure ?_)))
      · obtain ⟨a, o, xs, n, rfl, e1, e2, e3, e4⟩ := hT v hv
        rw [kas_first_eq]
        refine wpAny_bind (Looks.here (show Looks (model prog w) s.heap (typeOf (.ref a)) o.cls from (Looks.ld e1).andThen .now) ?_)
        rw [e2, if_neg (by first | decide | simp)]
        refine wpAny_bind (listItems_at e1 e3 (wpAny_pure ?_))
        rw [e4]
        exact hq'
      · have hno : ¬ ((vs.map g).toArray.all fun x => x.isSome) = true := by
          obtain ⟨v, hv, e⟩ := hn
          intro z
          rw [List.all_toArray, List.all_eq_true] at z
          have := z (g v) (List.mem_map.mpr ⟨v, hv, rfl⟩)
          rw [e] at this
          cases this
        rw [if_neg hno, if_neg hf]
        rw [oneTypeOnly'_eq, List.mapM_toArray, map_eq_pure_bind]
        refine wpAny_bind (wpAny_bind (wpAny_bind (kas_mapM (r := Value.type "tuple") _ (fun v hv Q' hq' => ?_) (wpAny_pure ?_))))
        · obtain ⟨a, o, xs, n, rfl, e1, e2, e3, e4⟩ := hT v hv
          have q : Looks (model prog w) s.heap (typeOf (.ref a)) o.cls := (Looks.ld e1).andThen .now
          rw [e2] at q
          exact q.here hq'
        · obtain ⟨v, hv, _⟩ := hn
          obtain ⟨v₁, rest, rfl⟩ : ∃ v₁ rest, vs = v₁ :: rest := by
            cases vs with
            | nil => cases hv
            | cons v₁ rest => exact ⟨v₁, rest, rfl⟩
          have hall : ((List.map (fun _ => Value.type "tuple") (v₁ :: rest)).toArray.all fun x => x == Value.type "tuple") = true := by
            simp only [List.all_toArray, List.all_map, List.all_eq_true]
            intro _ _
            rfl
          have h00 : (List.map (fun _ => Value.type "tuple") (v₁ :: rest)).toArray[0]? = some (Value.type "tuple") := by simp
          rw [h00]
          simp only [hall, if_true]
          exact wpAny_pure (wpAny_pure hq)
theorem alike_tuple {d d' : PyData} (h : alike d d' = true) : (∃ xs, d = .tuple xs) ↔ ∃ xs, d' = .tuple xs := by
  cases d <;> cases d' <;> simp_all [alike]
open Classical in
/-- alike data, no None among them -/
theorem SortsAt.any {vs : List Value} {ds : List PyData} (e : EachIs (fun v d => ∃ as, Reads s.heap v d as) vs ds) (hal : AllAlike ds) (hn : PyData.none ∉ ds) (hu : ∀ d, d ∈ ds → A.units + d.depth < cLine) : SortsAt prog w A s (dataKind s.heap ds) vs := by
  by_cases ht : ∀ d ∈ ds, ∃ xs, d = PyData.tuple xs
  · by_cases h0 : PyData.tuple [] ∈ ds
    · exact SortsAt.mixed e hal ht h0 hu
    · refine PySem.W.SortsAt.data e hal (.inl fun d hd => ?_) hu
      obtain ⟨xs, rfl⟩ := ht d hd
      cases xs with
      | nil => exact absurd hd h0
      | cons x r => exact ⟨x, r, rfl⟩
  · refine PySem.W.SortsAt.data e hal (.inr fun d hd => ⟨fun z => hn (z ▸ hd), fun xs z => ht fun d' hd' => ?_⟩) hu
    exact (alike_tuple (hal d hd d' hd')).mp ⟨xs, z⟩
end
end WdS

namespace WdU
open PySem PyProof.Rows PySem.W HT
section
variable {prog : Program} {w : World} {A : Around} {E : Value → Shared → Prop} {s : Shared} {κ : KeyKind}
theorem collect_tuple {l : Addr} {vs : List Value} {Q : List Value → Shared → Prop} (hl : s.heap.IsTuple l vs.toArray)
    (h : Q vs { s with heap := (s.heap.push (seqObj "list" #[] 0)).update s.heap.objs.size (Obj.mapSeq (· ++ vs.toArray)) }) (hsz : vs.length ≤ sizeLine := by size_fits) :
    wpAny (model prog w) A (collect (.ref l)) Q E s := by
  obtain ⟨o, ho, hc, n, hd⟩ := id hl
  unfold collect
  refine wpAny_bind (wpAny_runValue (codeAny_builtin entry_proto_collect' ?_))
  show wpAny _ _ (do again (.builtin "list.__iadd__" ⟨[← newList [], .ref l], []⟩)) _ _ s
  refine wpAny_bind (wpAny_newList (wpAny_pure ⟨Code.quiet_builtin _ (by decide +kernel), codeAny_builtin entry_list_iadd' ?_⟩))
  show wpAny _ _ (Builtin.List.listExtendWith (.ref s.heap.objs.size) (.ref l) (.ref s.heap.objs.size)) _ _ { s with heap := s.heap.push (seqObj "list" #[] 0) }
  unfold Builtin.List.listExtendWith
  have ho' : (s.heap.push (seqObj "list" #[] 0)).get? l = some o := Heap.get?_push_of_some _ ho
  refine wpAny_bind (wpAny_typeOf (T := "tuple") ⟨o, ho', hc⟩ ?_)
  have ht : (Value.type "tuple" == Value.type "tuple") = true := by rfl
  rw [if_pos (by rw [ht]; simp)]
  refine wpAny_bind (listItems_at ho' hd ?_)
  refine wpAny_bind (listItems_at (xs := #[]) (n := 0) (Heap.get?_push_size _ rfl) rfl ?_)
  rw [if_neg (by simp)]
  refine wpAny_bind (listUpdate_at (xs := #[]) (n := 0) (Heap.get?_push_size _ rfl) rfl ?_ (Nat.zero_le _) (by show (#[] ++ vs.toArray).size ≤ sizeLine + 1; simp only [Array.size_append, List.size_toArray, List.length_nil]; omega))
  refine wpAny_pure ?_
  show wpAny (model prog w) A (do
      let o ← load s.heap.objs.size
      match o.data with
      | .seq xs _ => pure xs.toList
      | _ => unsupported "internal:collect") Q E { s with heap := (s.heap.push (seqObj "list" #[] 0)).update s.heap.objs.size (Obj.mapSeq (· ++ vs.toArray)) }
  refine wpAny_bind (wpAny_load (get?_update_seq (Heap.get?_push_size _ rfl) _) ?_)
  show wpAny _ _ (pure ((#[] : Array Value) ++ vs.toArray).toList) Q E _
  refine wpAny_pure ?_
  simpa using h
theorem sortedT_vals {l : Addr} {vs : List Value} {Q : Value → Shared → Prop} (hl : s.heap.IsTuple l vs.toArray) (S : SortsAt prog w A.in1.in1 { s with heap := sortingHeap (copyHeap s.heap vs) (s.heap.objs.size + 1) vs } κ vs) (hL : vs.length ≤ sizeLine)
    (h : Q (.ref (s.heap.objs.size + 1)) { s with heap := sortedAll s.heap vs (sortVals κ false vs vs).toArray }) : wpAny (model prog w) A (call (.builtin "sorted") [.ref l]) Q E s := by
  refine call_function_entry_kw kind_sorted plain_sorted entry_sorted (args_sorted1 _) ?_
  unfold Builtin.«sorted»
  refine wpAny_bind (m := checkCount "sorted" 1 1 _) (wpAny_pure ?_)
  refine wpAny_bind (collect_tuple hl ?_ hL)
  refine wpAny_bind (wpAny_newList ?_ hL)
  have hsz : ((s.heap.push (seqObj "list" #[] 0)).update s.heap.objs.size (Obj.mapSeq (· ++ vs.toArray))).objs.size = s.heap.objs.size + 1 := by
    rw [Heap.size_update, size_push']
  show wpAny _ _ _ _ _ { s with heap := copyHeap s.heap vs }
  rw [hsz]
  refine wpAny_bind (wpAny_holding (wpAny_call_entry_kw slot_list_sort ⟨_, copyHeap_at s.heap vs, rfl⟩ entry_list_sort ?body (args_list_sort _)))
  case body =>
    show wpAny (model prog w) A.in1.in1 (Builtin.«list.sort» ⟨[.ref (s.heap.objs.size + 1)], []⟩) _ _ _
    refine wpAny_mono (list_sort_vals (s := { s with heap := copyHeap s.heap vs }) (copyHeap_at s.heap vs) S hL (P := fun f s' => f = .done (.ret .none) ∧ Q (.ref (s.heap.objs.size + 1)) s') ⟨rfl, h⟩) (fun f s' hf => ?_) fun _ _ e => e
    obtain ⟨rfl, hq⟩ := hf
    exact ⟨_, rfl, wpAny_pure ⟨_, rfl, hq⟩⟩
end
end WdU

namespace Wd
open PySem PyProof.Rows L2
open PySem.W (dataLt dataLe AllAlike alike EachIs)
def rSortedD (K : PySem.W.Frag) : List V → Hp → VK → Prop := fun vs H Q => ∃ (a : Addr) (bs : List (V × D)), vs = [V.ref a] ∧ (SqL K H a (bs.map (·.1)) ∨ SqT K H a (bs.map (·.1))) ∧ (∀ b ∈ bs, Dp K H b.1 b.2) ∧ AllAlike (bs.map (·.2)) ∧ PyData.none ∉ bs.map (·.2) ∧ (∀ b ∈ bs, PyData.depth b.2 ≤ 60) ∧
  ∀ p, H p = none → Q (.ref p) (upd H p (.lst ((bs.mergeSort (dataLe false fun b => b.2)).map (·.1))))
section
variable {X : Cx}
theorem each_of {R : Value → V × D → Prop} : ∀ {bs : List (V × D)} {us : List Value}, Vals (bs.map (·.1)) us → (∀ b ∈ bs, ∀ u, RelV b.1 u → R u b) → EachIs R us bs
  | [], _, .nil, _ => .nil
  | b :: bs, _, .cons r t, h => .cons (h b List.mem_cons_self _ r) (each_of t fun b' m => h b' (List.mem_cons_of_mem _ m))
theorem vals_of_each : ∀ {bs : List (V × D)} {us : List Value}, EachIs (fun u (b : V × D) => RelV b.1 u) us bs → Vals (bs.map (·.1)) us
  | _, _, .nil => .nil
  | _, _, .cons r t => .cons r (vals_of_each t)
theorem cr_sortedD {k : Nat} (hr : Room k X.A) : CallR X (.builtin "sorted") (rSortedD X.K) := by
  intro pins s σ H vs us Q I r h
  obtain ⟨a, bs, rfl, hs, hd, hal, hn, hdp, q⟩ := h
  rw [Vals.ref1 r]
  have hu := hr.un
  have core : ∀ (its : List Value), Vals (bs.map (·.1)) its → (bs.map (·.1)).length ≤ sizeLine → (∀ (Q' : Value → Shared → Prop), PySem.W.SortsAt X.prog X.w X.A.in1.in1 { s with heap := PySem.W.sortingHeap (PySem.W.copyHeap s.heap its) (s.heap.objs.size + 1) its } (PySem.W.dataKind (PySem.W.sortingHeap (PySem.W.copyHeap s.heap its) (s.heap.objs.size + 1) its) (bs.map (·.2))) its → its.length ≤ sizeLine →
      Q' (.ref (s.heap.objs.size + 1)) { s with heap := PyProof.Rows.sortedAll s.heap its (PySem.W.sortVals (PySem.W.dataKind (PySem.W.sortingHeap (PySem.W.copyHeap s.heap its) (s.heap.objs.size + 1) its) (bs.map (·.2))) false its its).toArray } → wpAny (model X.prog X.w) X.A (call (.builtin "sorted") [.ref a]) Q' X.xe s) →
      wpAny (model X.prog X.w) X.A (call (.builtin "sorted") [.ref a]) (EP X pins σ Q) X.xe s := by
    intro its rv hz go
    have er : EachIs (fun v (b : V × D) => ∃ as, Reads s.heap v b.2 as) its bs := each_of rv fun b m u ru => Dp.reads I b.2 b.1 u (hd b m) ru
    have er0 : EachIs (fun v (b : V × D) => RelV b.1 v) its bs := each_of rv fun b m u ru => ru
    have er' : EachIs (fun v (b : V × D) => ∃ as, Reads (PySem.W.sortingHeap (PySem.W.copyHeap s.heap its) (s.heap.objs.size + 1) its) v b.2 as) its bs := er.mono fun _ _ ⟨as, r⟩ => ⟨as, PyProof.Rows.Reads.keeps (fun _ _ => PySem.W.sorting_copy_old) r⟩
    have hlen : its.length = bs.length := er.length
    refine go _ (WdS.SortsAt.any (s := { s with heap := PySem.W.sortingHeap (PySem.W.copyHeap s.heap its) (s.heap.objs.size + 1) its }) (PySem.W.each_map (R := fun v d => ∃ as, Reads (PySem.W.sortingHeap (PySem.W.copyHeap s.heap its) (s.heap.objs.size + 1) its) v d as) (fun (b : V × D) => b.2) er') hal hn (fun d hd' => ?_)) (by rw [hlen]; rw [List.length_map] at hz; exact hz) ?_
    · obtain ⟨b, m, rfl⟩ := List.mem_map.mp hd'
      have := hdp b m
      show X.A.units + 1 + 1 + PyData.depth b.2 < cLine
      omega
    · have out := PySem.W.sortVals_data (R := fun v (b : V × D) => RelV b.1 v) false er0 er' hal
      obtain ⟨ep, he'⟩ := PyProof.Rows.sortedAll_at s.heap its (PySem.W.sortVals (PySem.W.dataKind (PySem.W.sortingHeap (PySem.W.copyHeap s.heap its) (s.heap.objs.size + 1) its) (bs.map (·.2))) false its its).toArray
      refine ⟨.ref _, upd H (s.heap.objs.size + 1) (.lst ((bs.mergeSort (dataLe false fun b => b.2)).map (·.1))), I.laid (t' := s.toks) (fun _ _ => PyProof.Rows.sortedAll_old) (Nat.le_succ _) ⟨?_, _, ep, vals_of_each out, he'⟩, rfl, q _ (I.hok.fresh (Nat.le_succ _))⟩
      rw [List.length_map, List.length_mergeSort]
      rw [List.length_map] at hz
      exact hz
  rcases hs with hs | hs
  · obtain ⟨its, rv, hl, hz⟩ := I.list hs
    exact core its rv hz fun Q' S hL hq => PySem.W.sorted_vals hl.isList S hL hq
  · obtain ⟨its, rv, hl, hz⟩ := I.tuple hs
    exact core its rv hz fun Q' S hL hq => WdU.sortedT_vals (show s.heap.IsTuple a its.toArray from hl) S hL hq
end
def okSort (ds : List D) : Bool := ds.all (fun a => ds.all fun b => alike a b) && ds.all (fun a => match a with | .none => false | _ => true) && ds.all fun a => decide (a.depth ≤ 60)
def leD (a b : D) : Bool := !dataLt b a
def dSorted : List D → Option D
  | [.list ds] => if okSort ds = true then some (.list (ds.mergeSort leD)) else none
  | [.tuple ds] => if okSort ds = true then some (.list (ds.mergeSort leD)) else none
  | _ => none
theorem zip_of {H : Hp} : ∀ {vs : List V} {ds : List D}, DaAll H vs ds → (vs.zip ds).map (·.1) = vs ∧ (vs.zip ds).map (·.2) = ds ∧ ∀ b ∈ vs.zip ds, Da H b.1 b.2
  | _, _, .nil => ⟨rfl, rfl, fun b m => by cases m⟩
  | _, _, .cons h t => by
    obtain ⟨e1, e2, e3⟩ := zip_of t
    refine ⟨by rw [List.zip_cons_cons, List.map_cons, e1], by rw [List.zip_cons_cons, List.map_cons, e2], fun b m => ?_⟩
    rw [List.zip_cons_cons] at m
    rcases List.mem_cons.mp m with z | z
    · subst z; exact h
    · exact e3 b z
theorem of_zip {H : Hp} : ∀ {bs : List (V × D)}, (∀ b ∈ bs, Da H b.1 b.2) → DaAll H (bs.map (·.1)) (bs.map (·.2))
  | [], _ => .nil
  | b :: bs, h => .cons (h b List.mem_cons_self) (of_zip fun b' m => h b' (List.mem_cons_of_mem _ m))
theorem rd_sorted {K : PySem.W.Frag} : RDc (rSortedD K) dSorted := fun S H xs ds z al hx hz Q k => by
  unfold dSorted at hz
  split at hz
  · rename_i ds
    split at hz
    · rename_i hok
      cases hz
      cases hx with
      | cons h1 h2 =>
      cases h2
      cases h1 with
      | lst ha hs =>
      rename_i vs
      obtain ⟨e1, e2, e3⟩ := zip_of hs
      unfold okSort at hok
      rw [Bool.and_eq_true, Bool.and_eq_true, List.all_eq_true, List.all_eq_true, List.all_eq_true] at hok
      obtain ⟨⟨o1, o2⟩, o3⟩ := hok
      have md : ∀ b ∈ vs.zip ds, b.2 ∈ ds := fun b m => by
        have : b.2 ∈ (vs.zip ds).map (·.2) := List.mem_map.mpr ⟨b, m, rfl⟩
        rw [e2] at this; exact this
      refine ⟨_, vs.zip ds, rfl, by rw [e1]; exact .inl (SqL.of (cut_some ha).2), fun b m => Da.dp K _ _ (Da.mono cut_ex _ _ (e3 b m)), ?_, ?_, fun b m => of_decide_eq_true (o3 _ (md b m)), fun p hp => ?_⟩
      · rw [e2]
        exact fun d hd d' hd' => List.all_eq_true.mp (o1 d hd) d' hd'
      · rw [e2]
        intro m
        have := o2 _ m
        cases this
      · have em : ((vs.zip ds).mergeSort (dataLe false fun b => b.2)).map (·.2) = ds.mergeSort leD := by
          have := List.map_mergeSort (f := fun b : V × D => b.2) (r := dataLe false fun b => b.2) (s := leD) (l := vs.zip ds) (fun a _ b _ => rfl)
          rw [e2] at this
          exact this
        have o4 : DaAll (cut H S) (((vs.zip ds).mergeSort (dataLe false fun b => b.2)).map (·.1)) (ds.mergeSort leD) := by
          rw [← em]
          exact of_zip fun b m => e3 b (List.mem_mergeSort.mp m)
        exact k _ _ (newL hp al o4).1 (newL hp al o4).2
    · cases hz
  · rename_i ds
    split at hz
    · rename_i hok
      cases hz
      cases hx with
      | cons h1 h2 =>
      cases h2
      cases h1 with
      | tup ha hs =>
      rename_i vs
      obtain ⟨e1, e2, e3⟩ := zip_of hs
      unfold okSort at hok
      rw [Bool.and_eq_true, Bool.and_eq_true, List.all_eq_true, List.all_eq_true, List.all_eq_true] at hok
      obtain ⟨⟨o1, o2⟩, o3⟩ := hok
      have md : ∀ b ∈ vs.zip ds, b.2 ∈ ds := fun b m => by
        have : b.2 ∈ (vs.zip ds).map (·.2) := List.mem_map.mpr ⟨b, m, rfl⟩
        rw [e2] at this; exact this
      refine ⟨_, vs.zip ds, rfl, by rw [e1]; exact .inr (SqT.of (cut_some ha).2), fun b m => Da.dp K _ _ (Da.mono cut_ex _ _ (e3 b m)), ?_, ?_, fun b m => of_decide_eq_true (o3 _ (md b m)), fun p hp => ?_⟩
      · rw [e2]
        exact fun d hd d' hd' => List.all_eq_true.mp (o1 d hd) d' hd'
      · rw [e2]
        intro m
        have := o2 _ m
        cases this
      · have em : ((vs.zip ds).mergeSort (dataLe false fun b => b.2)).map (·.2) = ds.mergeSort leD := by
          have := List.map_mergeSort (f := fun b : V × D => b.2) (r := dataLe false fun b => b.2) (s := leD) (l := vs.zip ds) (fun a _ b _ => rfl)
          rw [e2] at this
          exact this
        have o4 : DaAll (cut H S) (((vs.zip ds).mergeSort (dataLe false fun b => b.2)).map (·.1)) (ds.mergeSort leD) := by
          rw [← em]
          exact of_zip fun b m => e3 b (List.mem_mergeSort.mp m)
        exact k _ _ (newL hp al o4).1 (newL hp al o4).2
    · cases hz
  · cases hz
end Wd

set_option Elab.async false
set_option linter.all false
set_option maxRecDepth 100000
set_option maxHeartbeats 4000000
set_option autoImplicit false
namespace Wd
open PySem PyProof.Rows L2
open PySem.W (dataLt alike AlikeAll minD maxD)

/-! ### len, int, list, tuple -/
def dLen : List D → Option D
  | [.list ds] => some (.int ds.length)
  | [.tuple ds] => some (.int ds.length)
  | [.str z] => if z.length ≤ 100000 then some (.int z.length) else none
  | _ => none
def rLen (K : PySem.W.Frag) : List V → Hp → VK → Prop := fun xs H Q => (∃ p ys, xs = [.ref p] ∧ (SqL K H p ys ∨ SqT K H p ys) ∧ Q (.int ys.length) H) ∨ ∃ z, xs = [.str z] ∧ z.length ≤ sizeLine ∧ Q (.int z.length) H
theorem cr_len {X : Cx} : CallR X (.builtin "len") (rLen X.K) := call_len_seq.or call_len_str
theorem rd_len {K : PySem.W.Frag} : RDc (rLen K) dLen := fun S H xs ds z al hx hz Q k => by
  unfold dLen at hz
  split at hz
  · cases hz
    cases hx with
    | cons h1 h2 =>
    cases h2
    cases h1 with
    | lst ha hs =>
    refine .inl ⟨_, _, rfl, .inl (SqL.of (cut_some ha).2), ?_⟩
    rw [hs.length]
    exact k _ H (Evl.Ex.refl H) (.int _)
  · cases hz
    cases hx with
    | cons h1 h2 =>
    cases h2
    cases h1 with
    | tup ha hs =>
    refine .inl ⟨_, _, rfl, .inr (SqT.of (cut_some ha).2), ?_⟩
    rw [hs.length]
    exact k _ H (Evl.Ex.refl H) (.int _)
  · split at hz
    · rename_i hl
      cases hz
      cases hx with
      | cons h1 h2 =>
      cases h2
      cases h1
      exact .inr ⟨_, rfl, sz_of hl, k _ H (Evl.Ex.refl H) (.int _)⟩
    · cases hz
  · cases hz
def dInt : List D → Option D
  | [.int i] => some (.int i)
  | _ => none
theorem rd_int : RDc (fun xs H Q => (∃ i, xs = [.int i] ∧ Q (.int i) H) ∨ ∃ k, xs = [.bl k] ∧ Q (.int (if k then 1 else 0)) H) dInt := fun S H xs ds z al hx hz Q k => by
  unfold dInt at hz
  split at hz
  · cases hz
    cases hx with
    | cons h1 h2 =>
    cases h2
    cases h1
    exact .inl ⟨_, rfl, k _ H (Evl.Ex.refl H) (.int _)⟩
  · cases hz
def dList : List D → Option D
  | [.list ds] => some (.list ds)
  | [.tuple ds] => some (.list ds)
  | _ => none
theorem rd_list {K : PySem.W.Frag} : RDc (fun xs H Q => ∃ p ys, xs = [.ref p] ∧ (SqL K H p ys ∨ SqT K H p ys) ∧ ∀ l, H l = none → Q (.ref l) (upd H l (.lst ys))) dList := fun S H xs ds z al hx hz Q k => by
  unfold dList at hz
  split at hz
  · cases hz
    cases hx with
    | cons h1 h2 =>
    cases h2
    cases h1 with
    | lst ha hs =>
    exact ⟨_, _, rfl, .inl (SqL.of (cut_some ha).2), fun p hp => k _ _ (newL hp al hs).1 (newL hp al hs).2⟩
  · cases hz
    cases hx with
    | cons h1 h2 =>
    cases h2
    cases h1 with
    | tup ha hs =>
    exact ⟨_, _, rfl, .inr (SqT.of (cut_some ha).2), fun p hp => k _ _ (newL hp al hs).1 (newL hp al hs).2⟩
  · cases hz
def dTuple : List D → Option D
  | [.list ds] => some (.tuple ds)
  | [.tuple ds] => some (.tuple ds)
  | _ => none
theorem rd_tuple {K : PySem.W.Frag} : RDc (fun xs H Q => ∃ p ys, xs = [.ref p] ∧ ((SqL K H p ys ∧ ∀ l, H l = none → Q (.ref l) (upd H l (.tup ys))) ∨ (SqT K H p ys ∧ Q (.ref p) H))) dTuple := fun S H xs ds z al hx hz Q k => by
  unfold dTuple at hz
  split at hz
  · cases hz
    cases hx with
    | cons h1 h2 =>
    cases h2
    cases h1 with
    | lst ha hs =>
    exact ⟨_, _, rfl, .inl ⟨SqL.of (cut_some ha).2, fun p hp => k _ _ (newT hp al hs).1 (newT hp al hs).2⟩⟩
  · cases hz
    cases hx with
    | cons h1 h2 =>
    cases h2
    cases h1 with
    | tup ha hs =>
    exact ⟨_, _, rfl, .inr ⟨SqT.of (cut_some ha).2, k _ H (Evl.Ex.refl H) (.tup ha hs)⟩⟩
  · cases hz

/-! ### sum, all, any -/
def intsOf : List D → Option (List Int)
  | [] => some []
  | .int i :: ds => match intsOf ds with
    | some is => some (i :: is)
    | none => none
  | _ => none
def boolsOf : List D → Option (List Bool)
  | [] => some []
  | .bool i :: ds => match boolsOf ds with
    | some is => some (i :: is)
    | none => none
  | _ => none
theorem ints_da {H : Hp} : ∀ {vs : List V} {ds : List D} {is : List Int}, DaAll H vs ds → intsOf ds = some is → vs = is.map V.int
  | _, _, is, .nil, e => by cases e; rfl
  | _, _, is, .cons (d := d) h t, e => by
    cases h with
    | int i =>
      unfold intsOf at e
      split at e
      · rename_i is' e'
        cases e
        rw [ints_da t e', List.map_cons]
      · cases e
    | _ => cases e
theorem bools_da {H : Hp} : ∀ {vs : List V} {ds : List D} {is : List Bool}, DaAll H vs ds → boolsOf ds = some is → vs = is.map V.bl
  | _, _, is, .nil, e => by cases e; rfl
  | _, _, is, .cons (d := d) h t, e => by
    cases h with
    | bl i =>
      unfold boolsOf at e
      split at e
      · rename_i is' e'
        cases e
        rw [bools_da t e', List.map_cons]
      · cases e
    | _ => cases e
def dSum : List D → Option D
  | [.list ds] => match intsOf ds with
    | some is => some (.int is.sum)
    | none => none
  | _ => none
def dAll : List D → Option D
  | [.list ds] => match boolsOf ds with
    | some is => some (.bool (is.all id))
    | none => none
  | _ => none
def dAny : List D → Option D
  | [.list ds] => match boolsOf ds with
    | some is => some (.bool (is.any id))
    | none => none
  | _ => none
theorem rd_sum {K : PySem.W.Frag} : RDc (rSum K) dSum := fun S H xs ds z al hx hz Q k => by
  unfold dSum at hz
  split at hz
  · split at hz
    · rename_i is e
      cases hz
      cases hx with
      | cons h1 h2 =>
      cases h2
      cases h1 with
      | lst ha hs =>
      obtain rfl := ints_da hs e
      exact ⟨_, _, rfl, SqL.of (cut_some ha).2, k _ H (Evl.Ex.refl H) (.int _)⟩
    · cases hz
  · cases hz
theorem rd_all {K : PySem.W.Frag} : RDc (rAll K) dAll := fun S H xs ds z al hx hz Q k => by
  unfold dAll at hz
  split at hz
  · split at hz
    · rename_i is e
      cases hz
      cases hx with
      | cons h1 h2 =>
      cases h2
      cases h1 with
      | lst ha hs =>
      obtain rfl := bools_da hs e
      exact ⟨_, _, rfl, SqL.of (cut_some ha).2, k _ H (Evl.Ex.refl H) (.bl _)⟩
    · cases hz
  · cases hz
theorem rd_any {K : PySem.W.Frag} : RDc (rAny K) dAny := fun S H xs ds z al hx hz Q k => by
  unfold dAny at hz
  split at hz
  · split at hz
    · rename_i is e
      cases hz
      cases hx with
      | cons h1 h2 =>
      cases h2
      cases h1 with
      | lst ha hs =>
      obtain rfl := bools_da hs e
      exact ⟨_, _, rfl, SqL.of (cut_some ha).2, k _ H (Evl.Ex.refl H) (.bl _)⟩
    · cases hz
  · cases hz

/-! ### min, max of alike data -/
mutual
theorem Da.plain {H : Hp} : ∀ (d : D) (v : V), Da H v d → d.plain = true
  | .none, _, h => rfl
  | .bool b, _, h => rfl
  | .int i, _, h => rfl
  | .str x, _, h => rfl
  | .list ds, _, h => by
    cases h with
    | lst ha hs => exact DaAll.plain ds _ hs
  | .tuple ds, _, h => by
    cases h with
    | tup ha hs => exact DaAll.plain ds _ hs
  | .dict _, _, h => nomatch h
theorem DaAll.plain {H : Hp} : ∀ (ds : List D) (vs : List V), DaAll H vs ds → PyData.plainAll ds = true
  | [], _, h => rfl
  | d :: ds, _, h => by
    cases h with
    | cons h1 h2 =>
      show (PyData.plain d && PyData.plainAll ds) = true
      rw [Da.plain d _ h1, DaAll.plain ds _ h2]
      rfl
end
def rBestD (best : D → List D → D) (K : PySem.W.Frag) : List V → Hp → VK → Prop := fun vs H Q => ∃ (a : Addr) (xs : List V) (d : D) (ds : List D), vs = [V.ref a] ∧ SqL K H a xs ∧ DpAll K H xs (d :: ds) ∧ PyData.plainAll (d :: ds) = true ∧ AlikeAll (d :: ds) ∧ PyData.depthAll (d :: ds) ≤ 60 ∧
  ∀ (i : Nat) (x : V), xs[i]? = some x → (d :: ds)[i]? = some (best d ds) → Q x H
section
variable {X : Cx}
theorem dp_len {K : PySem.W.Frag} {H : Hp} : ∀ {vs : List V} {ds : List D}, DpAll K H vs ds → vs.length = ds.length
  | _, _, .nil => rfl
  | _, _, .cons _ t => by rw [List.length_cons, List.length_cons, dp_len t]
theorem dp_get {K : PySem.W.Frag} {H : Hp} : ∀ {vs : List V} {ds : List D} {i : Nat} {v : V}, DpAll K H vs ds → vs[i]? = some v → ∃ d, ds[i]? = some d ∧ Dp K H v d
  | _, _, _, _, .nil, e => by simp at e
  | _, _, 0, _, .cons h _, e => by
    obtain rfl := Option.some.inj e
    exact ⟨_, rfl, h⟩
  | _, _, i + 1, _, .cons _ t, e => dp_get (i := i) t e
theorem plain_at : ∀ {ds : List D} {i : Nat} {d : D}, PyData.plainAll ds = true → ds[i]? = some d → d.plain = true
  | [], _, _, _, e => by simp at e
  | x :: ds, i, d, h, e => by
    have h' : (PyData.plain x && PyData.plainAll ds) = true := h
    rw [Bool.and_eq_true] at h'
    cases i with
    | zero => obtain rfl := Option.some.inj e; exact h'.1
    | succ i => exact plain_at h'.2 e
theorem cr_minD {k : Nat} (hr : Room k X.A) (hc : X.calm = true) : CallR X (.builtin "min") (rBestD minD X.K) := by
  intro pins s σ H vs us Q I r h
  obtain ⟨a, xs, d, ds, rfl, hs, hd, hp, hal, hdp, q⟩ := h
  obtain ⟨its, rv, hl, hz⟩ := I.list hs
  rw [Vals.ref1 r]
  have hu := hr.un
  obtain ⟨as, ra⟩ := Dp.readsAll I (d :: ds) xs its hd rv
  refine PySem.W.min_list_data (I.ok.hd hc) hl.isList ra hal (by omega) fun i v h' tk bs hv hb hk => ?_
  have I1 : Inv X pins σ H { s with heap := h', toks := tk } := I.kept hk
  have hv' : its[i]? = some v := by simpa using hv
  have hil : i < xs.length := by rw [rv.length]; exact (List.getElem?_eq_some_iff.mp hv').1
  have hx : xs[i]? = some xs[i] := List.getElem?_eq_getElem hil
  obtain ⟨u, hu', ru⟩ := rv.get hx
  rw [hv'] at hu'
  obtain rfl := Option.some.inj hu'
  obtain ⟨e, he, de⟩ := dp_get hd hx
  obtain ⟨cs, rc⟩ := Dp.reads I1 e _ _ de ru
  have eq := PySem.SeqAt.plain_unique e _ _ _ _ (plain_at hp he) rc hb
  rw [eq] at he
  exact ⟨xs[i], H, I1, ru, q i xs[i] hx he⟩
theorem cr_maxD {k : Nat} (hr : Room k X.A) (hc : X.calm = true) : CallR X (.builtin "max") (rBestD maxD X.K) := by
  intro pins s σ H vs us Q I r h
  obtain ⟨a, xs, d, ds, rfl, hs, hd, hp, hal, hdp, q⟩ := h
  obtain ⟨its, rv, hl, hz⟩ := I.list hs
  rw [Vals.ref1 r]
  have hu := hr.un
  obtain ⟨as, ra⟩ := Dp.readsAll I (d :: ds) xs its hd rv
  refine PySem.W.max_list_data (I.ok.hd hc) hl.isList ra hal (by omega) fun i v h' tk bs hv hb hk => ?_
  have I1 : Inv X pins σ H { s with heap := h', toks := tk } := I.kept hk
  have hv' : its[i]? = some v := by simpa using hv
  have hil : i < xs.length := by rw [rv.length]; exact (List.getElem?_eq_some_iff.mp hv').1
  have hx : xs[i]? = some xs[i] := List.getElem?_eq_getElem hil
  obtain ⟨u, hu', ru⟩ := rv.get hx
  rw [hv'] at hu'
  obtain rfl := Option.some.inj hu'
  obtain ⟨e, he, de⟩ := dp_get hd hx
  obtain ⟨cs, rc⟩ := Dp.reads I1 e _ _ de ru
  have eq := PySem.SeqAt.plain_unique e _ _ _ _ (plain_at hp he) rc hb
  rw [eq] at he
  exact ⟨xs[i], H, I1, ru, q i xs[i] hx he⟩
end
def okBest (ds : List D) : Bool := ds.all (fun a => ds.all fun b => alike a b) && ds.all (fun a => match a with | .none => false | _ => true) && decide (PyData.depthAll ds ≤ 60)
def dBest (best : D → List D → D) : List D → Option D
  | [.list (d :: ds)] => if okBest (d :: ds) = true then some (best d ds) else none
  | _ => none
abbrev dMin := dBest minD
abbrev dMax := dBest maxD
theorem rd_best {K : PySem.W.Frag} {best : D → List D → D} : RDc (rBestD best K) (dBest best) := fun S H xs ds z al hx hz Q k => by
  unfold dBest at hz
  split at hz
  · split at hz
    · rename_i hok
      cases hz
      cases hx with
      | cons h1 h2 =>
      cases h2
      cases h1 with
      | lst ha hs =>
      unfold okBest at hok
      rw [Bool.and_eq_true, Bool.and_eq_true, List.all_eq_true, List.all_eq_true] at hok
      obtain ⟨⟨o1, o2⟩, o3⟩ := hok
      refine ⟨_, _, _, _, rfl, SqL.of (cut_some ha).2, DaAll.dp K _ _ (DaAll.mono cut_ex _ _ hs), DaAll.plain _ _ hs, ⟨fun x hx y hy => List.all_eq_true.mp (o1 x hx) y hy, fun x hx z => ?_⟩, of_decide_eq_true o3, fun i x hx hd => ?_⟩
      · have := o2 x hx
        rw [z] at this
        cases this
      · obtain ⟨v, hv, o⟩ := hs.get hd
        rw [hx] at hv
        obtain rfl := Option.some.inj hv
        exact k x H (Evl.Ex.refl H) o
    · cases hz
  · cases hz

/-! ### isinstance -/
def tyD : D → String
  | .none => "NoneType"
  | .bool _ => "bool"
  | .int _ => "int"
  | .str _ => "str"
  | .list _ => "list"
  | .tuple _ => "tuple"
  | .dict _ => "dict"
def dIsi (T : String) (d : D) : Option D := match kitB (tyD d) T with
  | some b => some (.bool b)
  | none => none
def rIsiT1 (K : PySem.W.Frag) (T : String) : V → Hp → VK → Prop := fun x H Q => ∃ (t : Value) (b : Bool), TyX K H x t ∧ PySem.W.kitOne K t (.type T) = some b ∧ Q (.bl b) H
theorem ty_of {K : PySem.W.Frag} {H : Hp} {S : Addr → Prop} {v : V} {d : D} (h : Da (cut H S) v d) : TyX K H v (.type (tyD d)) := by
  cases h with
  | non => exact .base .non
  | bl b => exact .base (.bl b)
  | int i => exact .base (.int i)
  | str x => exact .base (.str x)
  | lst ha hs => exact .base (.lst (cut_some ha).2)
  | tup ha hs => exact .base (.tup (cut_some ha).2)
theorem ce_isi {X : Cx} {e : Expr} {te : TE} {F : F1} {T : Str} {n : String} {p p2 pos : Pos} (hg : Gl X "isinstance") (hm : X.mg "isinstance" = none) (hgT : Gl X T) (hmT : X.mg T = none) (hvT : bootBuiltins T = some (.type n)) (he : Ce X e te F) (hnT : T ≠ "__name__" := by decide) (hdT : (T == ("__debug__" : Str)) = false := by decide)
    (s1 : starEach [e, .Name T p2] X.env = (false, eval e X.env) :: starEach [.Name T p2] X.env := by rfl) (s2 : starEach [.Name T p2] X.env = (false, eval (.Name T p2) X.env) :: starEach [] X.env := by rfl) (hpl : (backTo pos (starEach [.Name T p2] X.env)).any (·.1) = false := by rfl) :
    Ce X (.Call (.Name "isinstance" p) [e, .Name T p2] [] pos) (tCB (rIsi X.K) (tCons te (tCons (tC (.ty n)) tNil))) (fUn (dIsi n) F) :=
  ⟨pe_callB call_isi hg hm (by decide +kernel) (pa_cons he.pe (pa_cons (pe_bltn hgT hmT hvT rfl hnT hdT) pa_nil s2) s1) (by decide) (by decide) s1 hpl, fun N S H σ ρ z R hz Q k => by
    unfold fUn at hz
    split at hz
    · rename_i d e1
      unfold dIsi at hz
      split at hz
      · rename_i b eb
        cases hz
        refine he.so N S H σ ρ d R e1 _ fun v H1 x1 o1 => ?_
        exact ⟨v, .ty n, .type (tyD d), .type n, b, rfl, .ty n, ty_of o1, kit_ty eb, k _ H1 x1 (.bl b)⟩
      · cases hz
    · cases hz⟩

/-! ### list(range(..)), tuple(range(..)) -/
def PRgS (t : L2.St → Hp → (Int → Int → Hp → Prop) → Prop) (F : Env → Option (Int × Int)) : Prop := ∀ (N S : Addr → Prop) (H : Hp) (σ : L2.St) (ρ : Env) (m : Int × Int), RelE N S H σ ρ → F ρ = some m → ∀ Q : Int → Int → Hp → Prop, (∀ H', Ex H H' → Q m.1 m.2 H') → t σ H Q
structure Crg (X : Cx) (e : Expr) (t : L2.St → Hp → (Int → Int → Hp → Prop) → Prop) (F : Env → Option (Int × Int)) : Prop where
  pe : PRg X e t
  so : PRgS t F
def fRg1 (F : F1) : Env → Option (Int × Int) := fun ρ => match F ρ with
  | some (.int n) => some (0, n)
  | _ => none
def fRg2 (F G : F1) : Env → Option (Int × Int) := fun ρ => match F ρ with
  | some (.int m) => match G ρ with
    | some (.int n) => some (m, n)
    | _ => none
  | _ => none
def okRg (m n : Int) : Bool := okI m && okI n && decide ((n - m).toNat ≤ 100000)
def fRgL (F : Env → Option (Int × Int)) : F1 := fun ρ => match F ρ with
  | some (m, n) => if okRg m n = true then some (.list (rngD m (n - m).toNat)) else none
  | none => none
def fRgT (F : Env → Option (Int × Int)) : F1 := fun ρ => match F ρ with
  | some (m, n) => if okRg m n = true then some (.tuple (rngD m (n - m).toNat)) else none
  | none => none
section
variable {X : Cx} {a b e : Expr} {ta tb : TE} {F G : F1} {p pos : Pos} {te : L2.St → Hp → (Int → Int → Hp → Prop) → Prop} {R : Env → Option (Int × Int)}
theorem crg_1 (hg : Gl X "range") (hm : X.mg "range" = none) (ha : Ce X a ta F) (na : starEach [a] X.env = (false, eval a X.env) :: starEach [] X.env := by rfl) : Crg X (.Call (.Name "range" p) [a] [] pos) (tRg1 ta) (fRg1 F) := ⟨prg_1 hg hm ha.pe na, fun N S H σ ρ m R hz Q k => by
  unfold fRg1 at hz
  split at hz
  · rename_i n e1
    cases hz
    refine ha.so N S H σ ρ _ R e1 _ fun v H1 x1 o1 => ?_
    cases o1
    exact ⟨n, rfl, k H1 x1⟩
  · cases hz⟩
theorem crg_2 (hg : Gl X "range") (hm : X.mg "range" = none) (ha : Ce X a ta F) (hb : Ce X b tb G) (na : starEach [a, b] X.env = (false, eval a X.env) :: starEach [b] X.env := by rfl) (nb : starEach [b] X.env = (false, eval b X.env) :: starEach [] X.env := by rfl) (hp : (backTo pos (starEach [b] X.env)).any (·.1) = false := by rfl) :
    Crg X (.Call (.Name "range" p) [a, b] [] pos) (tRg2 ta tb) (fRg2 F G) := ⟨prg_2 hg hm ha.pe hb.pe na nb hp, fun N S H σ ρ m R hz Q k => by
  unfold fRg2 at hz
  split at hz
  · rename_i n e1
    split at hz
    · rename_i n2 e2
      cases hz
      refine ha.so N S H σ ρ _ R e1 _ fun v H1 x1 o1 => ?_
      cases o1
      refine hb.so N S H1 σ ρ _ (R.mono x1) e2 _ fun v H2 x2 o2 => ?_
      cases o2
      exact ⟨_, _, rfl, rfl, k H2 (x1.trans x2)⟩
    · cases hz
  · cases hz⟩
theorem rgV_eq (m n : Int) : rgV m n = rngV m (n - m).toNat := rfl
theorem ok_rg {m n : Int} (h : okRg m n = true) : RgOk m n := by
  unfold okRg at h
  rw [Bool.and_eq_true, Bool.and_eq_true, decide_eq_true_eq] at h
  obtain ⟨⟨h1, h2⟩, h3⟩ := h
  obtain ⟨a1, a2⟩ := okI_iff.mp h1
  obtain ⟨a3, a4⟩ := okI_iff.mp h2
  exact ⟨a1, a2, a3, a4, by omega⟩
theorem ce_listRg (hc : X.calm = true) (hg : Gl X "list") (hm : X.mg "list" = none) (he : Crg X e te R) (na : starEach [e] X.env = (false, eval e X.env) :: starEach [] X.env := by rfl) : Ce X (.Call (.Name "list" p) [e] [] pos) (tLstRg te) (fRgL R) := ⟨pe_listRg hc hg hm he.pe na, fun N S H σ ρ m R hz Q k => by
  unfold fRgL at hz
  split at hz
  · rename_i m n e1
    split at hz
    · rename_i h
      cases hz
      refine he.so N S H σ ρ _ R e1 _ fun H1 x1 => ⟨ok_rg h, fun p hp => ?_⟩
      have o : DaAll (cut H1 S) (rgV m n) (rngD m (n - m).toNat) := da_rng
      exact k _ _ (x1.trans (newL hp (R.al.mono x1) o).1) (newL hp (R.al.mono x1) o).2
    · cases hz
  · cases hz⟩
theorem ce_tupRg (hc : X.calm = true) (hg : Gl X "tuple") (hm : X.mg "tuple" = none) (he : Crg X e te R) (na : starEach [e] X.env = (false, eval e X.env) :: starEach [] X.env := by rfl) : Ce X (.Call (.Name "tuple" p) [e] [] pos) (tTupRg te) (fRgT R) := ⟨pe_tupRg hc hg hm he.pe na, fun N S H σ ρ m R hz Q k => by
  unfold fRgT at hz
  split at hz
  · rename_i m n e1
    split at hz
    · rename_i h
      cases hz
      refine he.so N S H σ ρ _ R e1 _ fun H1 x1 => ⟨ok_rg h, fun p hp => ?_⟩
      have o : DaAll (cut H1 S) (rgV m n) (rngD m (n - m).toNat) := da_rng
      exact k _ _ (x1.trans (newT hp (R.al.mono x1) o).1) (newT hp (R.al.mono x1) o).2
    · cases hz
  · cases hz⟩
end
end Wd

set_option Elab.async false
set_option linter.all false
set_option maxRecDepth 100000
set_option maxHeartbeats 4000000
set_option autoImplicit false
/-! tables of up to 512 slots: the order of the slots, by the round alone -/
namespace Bs
open PySem PySem.Spec PyProof.Rows L2
/-- every slot is met from every slot -/
def Full (m : Nat) : Prop := ∀ x y, x ≤ m → y ≤ m → ∃ k, k ≤ m ∧ lcgI m x k = y
/-- walks the round and marks what it meets -/
def marks (m : Nat) : Nat → Nat → Nat → Nat × Nat
  | 0, x, acc => (x, acc)
  | n + 1, x, acc => marks m n ((x * 5 + 1) % (m + 1)) (acc ||| 2 ^ x)
theorem marks_at (m : Nat) : ∀ (n a acc : Nat), (marks m n (lcgN m a) acc).1 = lcgN m (a + n)
  | 0, a, acc => rfl
  | n + 1, a, acc => by
    have := marks_at m n (a + 1) (acc ||| 2 ^ lcgN m a)
    rw [show a + (n + 1) = a + 1 + n by omega]
    exact this
theorem marks_bit (m : Nat) : ∀ (n a acc j : Nat), (marks m n (lcgN m a) acc).2.testBit j = true → acc.testBit j = true ∨ ∃ b, b < n ∧ lcgN m (a + b) = j
  | 0, a, acc, j, h => .inl h
  | n + 1, a, acc, j, h => by
    rcases marks_bit m n (a + 1) (acc ||| 2 ^ lcgN m a) j h with q | ⟨b, hb, e⟩
    · rw [Nat.testBit_or, Bool.or_eq_true] at q
      rcases q with q | q
      · exact .inl q
      · rw [Nat.testBit_two_pow, decide_eq_true_eq] at q
        exact .inr ⟨0, Nat.succ_pos _, q⟩
    · exact .inr ⟨b + 1, Nat.succ_lt_succ hb, by rw [← e]; congr 1; omega⟩
theorem full_of {m : Nat} (h : marks m (m + 1) 0 0 = (0, 2 ^ (m + 1) - 1)) : Full m := by
  have hr : lcgN m (m + 1) = 0 := by
    have := marks_at m (m + 1) 0 0
    rw [Nat.zero_add] at this
    rw [← this]
    show (marks m (m + 1) 0 0).1 = 0
    rw [h]
  have hall : ∀ j, j ≤ m → ∃ b, b ≤ m ∧ lcgN m b = j := fun j hj => by
    have hb : (marks m (m + 1) (lcgN m 0) 0).2.testBit j = true := by
      show (marks m (m + 1) 0 0).2.testBit j = true
      rw [h]
      show (2 ^ (m + 1) - 1).testBit j = true
      rw [Nat.testBit_two_pow_sub_one, decide_eq_true_eq]
      omega
    rcases marks_bit m (m + 1) 0 0 j hb with q | ⟨b, hb, e⟩
    · rw [Nat.zero_testBit] at q; cases q
    · exact ⟨b, by omega, by rw [Nat.zero_add] at e; exact e⟩
  have hper : ∀ k, lcgN m (m + 1 + k) = lcgN m k := by
    intro k
    induction k with
    | zero => exact hr
    | succ k ih => show (lcgN m (m + 1 + k) * 5 + 1) % (m + 1) = _; rw [ih]; rfl
  intro x y hx hy
  obtain ⟨a, ha, rfl⟩ := hall x hx
  obtain ⟨b, hb, rfl⟩ := hall y hy
  by_cases c : a ≤ b
  · exact ⟨b - a, by omega, by rw [lcgN_add]; congr 1; omega⟩
  · exact ⟨m + 1 + b - a, by omega, by rw [lcgN_add, show a + (m + 1 + b - a) = m + 1 + b by omega, hper]⟩
theorem full7 : Full 7 := full_of (by decide +kernel)
theorem full31 : Full 31 := full_of (by decide +kernel)
theorem full127 : Full 127 := full_of (by decide +kernel)
theorem full511 : Full 511 := full_of (by decide +kernel)
/-- the masks -/
def Msk (m : Nat) : Prop := m = 7 ∨ m = 31 ∨ m = 127 ∨ m = 511
theorem Msk.full {m : Nat} : Msk m → Full m
  | .inl e => by rw [e]; exact full7
  | .inr (.inl e) => by rw [e]; exact full31
  | .inr (.inr (.inl e)) => by rw [e]; exact full127
  | .inr (.inr (.inr e)) => by rw [e]; exact full511
theorem Msk.odd {m : Nat} (h : Msk m) : m % 2 = 1 := by rcases h with e | e | e | e <;> rw [e]
theorem Msk.le {m : Nat} (h : Msk m) : m ≤ 511 := by rcases h with e | e | e | e <;> omega
theorem way_bd {m : Nat} {h : Int} {k : Nat} : way m h k ≤ m := by
  have b0 : SetTable.bits h % (m + 1) ≤ m := Nat.le_of_lt_succ (Nat.mod_lt _ (Nat.succ_pos _))
  have b1 := runEnd_bd b0
  have b2 := nth_in (m := m) k (runAt m (SetTable.bits h % (m + 1)) (SetTable.bits h)) (show SetTable.bits h % (m + 1) + (SetTable.runEnd m (SetTable.bits h % (m + 1)) - SetTable.bits h % (m + 1)) ≤ m by omega)
  exact Nat.le_trans (Nat.le_add_right _ _) b2
/-- a run begins at each slot, early -/
theorem runs {m : Nat} (F : Full m) (h : Int) {j : Nat} (hj : j ≤ m) : ∃ n, n ≤ m + 12 ∧ runI m (SetTable.bits h) n = j := by
  obtain ⟨k, hk, e⟩ := F _ j (runI_le m (SetTable.bits h) 12) hj
  refine ⟨12 + k, by omega, ?_⟩
  rw [runI_tail (bits_lt h)]
  exact e
theorem meets {m : Nat} (F : Full m) (h : Int) {j : Nat} (hj : j ≤ m) : ∃ k, k < 10 * SetTable.turns m ∧ way m h k = j := by
  obtain ⟨n, hn, e⟩ := runs F h hj
  obtain ⟨k, hk, e2⟩ := run_nth m (SetTable.bits h) n
  refine ⟨k, ?_, ?_⟩
  · show k < 10 * (m + 15)
    omega
  · show SetTable.Probe.j (nth m (runAt m (SetTable.bits h % (m + 1)) (SetTable.bits h)) k) = j
    rw [e2]
    exact e
/-- a table whose places are found again -/
structure Tab (t : SetTable) (hs : List Int) : Prop where
  up : Ris t.place.toList
  none : t.dummies = #[]
  size : t.place.size = hs.length
  msk : Msk t.mask
  back : ∀ (i : Nat) (h : Int) (j : Nat), hs[i]? = some h → t.place.toList[i]? = some j → ∃ k, way t.mask h k = j ∧ ∀ c, c < k → way t.mask h c ∈ t.place.toList
theorem Tab.hole {t : SetTable} {hs : List Int} (T : Tab t hs) (hl : hs.length ≤ t.mask) (h : Int) : ∃ K, K < 10 * SetTable.turns t.mask ∧ way t.mask h K ∉ t.place.toList ∧ ∀ k, k < K → way t.mask h k ∈ t.place.toList := by
  have hs1 := T.size
  obtain ⟨j, hj, hn⟩ := st_missing t.place.toList (t.mask + 1) (by rw [Array.length_toList]; omega)
  obtain ⟨k, hk, e⟩ := meets T.msk.full h (show j ≤ t.mask by omega)
  obtain ⟨K, a1, a2, a3⟩ := st_least (p := fun k => way t.mask h k ∉ t.place.toList) k (show way t.mask h k ∉ t.place.toList by rw [e]; exact hn)
  exact ⟨K, by omega, a2, fun c hc => Classical.not_not.mp (a3 c hc)⟩
theorem Tab.ahead {t : SetTable} {hs : List Int} (T : Tab t hs) {h : Int} {K i j : Nat} (hK : way t.mask h K ∉ t.place.toList) (hi : hs[i]? = some h) (hj : t.place.toList[i]? = some j) : ∃ k, k < K ∧ way t.mask h k = j := by
  obtain ⟨k, e, hb⟩ := T.back i h j hi hj
  refine ⟨k, ?_, e⟩
  refine Nat.lt_of_not_le fun c => ?_
  rcases Nat.lt_or_eq_of_le c with c | c
  · exact hK (hb K c)
  · rw [c, e] at hK
    exact hK (List.mem_of_getElem? hj)
/-- one more -/
theorem Tab.more {t : SetTable} {hs : List Int} (T : Tab t hs) {h : Int} {K : Nat} (hK : way t.mask h K ∉ t.place.toList) (hb : ∀ k, k < K → way t.mask h k ∈ t.place.toList) :
    ∀ {p : Nat}, p = SetTable.below t.place (way t.mask h K) → p ≤ hs.length ∧ Tab (t.put (way t.mask h K)).1 (hs.take p ++ h :: hs.drop p) ∧ (t.put (way t.mask h K)).1.fill = hs.length + 1 := by
  intro p hp
  have hw : way t.mask h K ≤ t.mask := way_bd
  generalize ej : way t.mask h K = j at hK hw hp ⊢
  subst hp
  have cut := (below_cut T.up j).1
  have hsz := T.size
  have hpl : SetTable.below t.place j ≤ t.place.toList.length := by rw [Array.length_toList]; exact cut
  have hph : SetTable.below t.place j ≤ hs.length := by rw [← hsz]; exact cut
  have pp := put_place t j
  have len : (t.put j).1.place.size = hs.length + 1 := by rw [← Array.length_toList, pp, len_ins _ hpl, Array.length_toList, hsz]
  have grow : ∀ {x : Nat}, x ∈ t.place.toList → x ∈ (t.put j).1.place.toList := fun {x} hx => by rw [pp]; exact mem_ins.2 (.inr hx)
  have mk : (t.put j).1.mask = t.mask := rfl
  refine ⟨hph, ⟨ris_insert T.up fun e => hK (List.mem_of_getElem? (by rw [Array.getElem?_toList]; exact e)), put_dm T.none j, by rw [len_ins _ hph]; exact len, T.msk, ?_⟩, ?_⟩
  · intro i h' j' h1 h2
    rw [tins_get hs hph] at h1
    rw [pp, tins_get _ hpl] at h2
    rw [mk]
    have old : ∀ i, hs[i]? = some h' → t.place.toList[i]? = some j' → ∃ k, way t.mask h' k = j' ∧ ∀ c, c < k → way t.mask h' c ∈ (t.put j).1.place.toList := fun i g1 g2 => by
      obtain ⟨k, e, z⟩ := T.back i h' j' g1 g2
      exact ⟨k, e, fun c hc => grow (z c hc)⟩
    by_cases c : i < SetTable.below t.place j
    · rw [if_pos c] at h1 h2
      exact old i h1 h2
    · rw [if_neg c] at h1 h2
      by_cases d : i = SetTable.below t.place j
      · rw [if_pos d] at h1 h2
        cases h1
        cases h2
        exact ⟨K, ej, fun c hc => grow (hb c hc)⟩
      · rw [if_neg d] at h1 h2
        exact old _ h1 h2
  · show (t.put j).1.place.size + (t.put j).1.dummies.size = _
    rw [len, put_dm T.none j]
    rfl
/-! laying all anew -/
theorem free_at {m : Nat} (F : Full m) (owner : Array (Option Nat)) (h : Int) {j : Nat} (hj : j ≤ m) (hf : oAt owner j = none) :
    ∃ K, SetTable.layClean.free m owner (SetTable.turns m) (SetTable.bits h % (m + 1)) (SetTable.bits h) = some (way m h K) ∧ oAt owner (way m h K) = none ∧ ∀ k, k < K → oAt owner (way m h k) ≠ none := by
  obtain ⟨n, hn, e⟩ := runs F h hj
  generalize eo : off m (SetTable.bits h % (m + 1)) (SetTable.bits h) n = f
  have hw : way m h f = j := by
    show SetTable.Probe.j (nth m (runAt m (SetTable.bits h % (m + 1)) (SetTable.bits h)) f) = j
    rw [← eo, nth_off, itL_run]
    exact e
  obtain ⟨K, k1, k2, k3⟩ := st_least (p := fun k => oAt owner (way m h k) = none) f (show oAt owner (way m h f) = none by rw [hw]; exact hf)
  refine ⟨K, free_spec m owner _ n _ _ K (show n < m + 15 by omega) (by rw [eo]; exact k1) (fun k hk => ?_) (Option.isNone_iff_eq_none.mpr k2), k2, k3⟩
  rw [Bool.eq_false_iff]
  exact fun z => k3 k hk (Option.isNone_iff_eq_none.mp z)
theorem own_step {m : Nat} (F : Full m) {done : List Int} {owner : Array (Option Nat)} (W : Own m done owner) (hl : done.length ≤ m) (h : Int) :
    ∃ j, SetTable.layClean.free m owner (SetTable.turns m) (SetTable.bits h % (m + 1)) (SetTable.bits h) = some j ∧ Own m (done ++ [h]) (owner.setIfInBounds j (some done.length)) := by
  obtain ⟨ps, hps, hin⟩ := W.ps
  obtain ⟨j0, h0, hn0⟩ := st_missing ps (m + 1) (by omega)
  have hj0 : oAt owner j0 = none := Classical.byContradiction fun z => hn0 (hin j0 (Nat.le_of_lt_succ h0) z)
  obtain ⟨K, e1, e2, e3⟩ := free_at F owner h (Nat.le_of_lt_succ h0) hj0
  refine ⟨_, e1, ?_⟩
  have hjm : way m h K ≤ m := way_bd
  generalize ej : way m h K = j at e2 hjm ⊢
  have hself : oAt (owner.setIfInBounds j (some done.length)) j = some done.length := oAt_set_self _ (by rw [W.sz]; omega)
  have other : ∀ {i : Nat}, i ≠ j → oAt (owner.setIfInBounds j (some done.length)) i = oAt owner i := fun {i} c => oAt_set_ne _ c
  have stay : ∀ {i : Nat}, oAt owner i ≠ none → oAt (owner.setIfInBounds j (some done.length)) i ≠ none := fun {i} hi => by
    rw [other fun c => hi (by rw [c]; exact e2)]
    exact hi
  refine { sz := ?_, at_ := fun i k hi e => ?_, all := fun k hk => ?_, ps := ⟨j :: ps, ?_, fun i hi e => ?_⟩ }
  · rw [Array.size_setIfInBounds]; exact W.sz
  · by_cases c : i = j
    · rw [c, hself] at e
      cases e
      exact ⟨h, K, by simp, by rw [c]; exact ej, fun q hq => stay (e3 q hq)⟩
    · rw [other c] at e
      obtain ⟨h', K', a1, a2, a3⟩ := W.at_ i k hi e
      refine ⟨h', K', ?_, a2, fun q hq => stay (a3 q hq)⟩
      rw [List.getElem?_append_left (List.getElem?_eq_some_iff.mp a1).1, a1]
  · rw [List.length_append, List.length_singleton] at hk
    by_cases c : k = done.length
    · rw [c]; exact ⟨j, hjm, hself⟩
    · obtain ⟨i, hi, e⟩ := W.all k (by omega)
      exact ⟨i, hi, by rw [other fun z => by rw [z, e2] at e; cases e]; exact e⟩
  · rw [List.length_cons, List.length_append, hps]; rfl
  · by_cases c : i = j
    · rw [c]; exact .head _
    · rw [other c] at e
      exact .tail _ (hin i hi e)
theorem lay_all {m : Nat} (F : Full m) : ∀ (rest done : List Int) (owner : Array (Option Nat)), Own m done owner → done.length + rest.length ≤ m →
    ∃ o2, rest.foldl (stepF m) (some (owner, done.length)) = some (o2, (done ++ rest).length) ∧ Own m (done ++ rest) o2
  | [], done, owner, W, _ => by rw [List.append_nil]; exact ⟨owner, rfl, W⟩
  | h :: rest, done, owner, W, hl => by
    rw [List.length_cons] at hl
    obtain ⟨j, e, W'⟩ := own_step F W (by omega) h
    obtain ⟨o2, f, W2⟩ := lay_all F rest (done ++ [h]) _ W' (by rw [List.length_append, List.length_singleton]; omega)
    rw [List.append_assoc, List.singleton_append] at f W2
    rw [List.length_append, List.length_singleton] at f
    exact ⟨o2, by rw [List.foldl_cons, stepF_some e]; exact f, W2⟩
theorem relaid {t : SetTable} {hs : Array Int} {wanted M : Nat} (hw : SetTable.sizeAbove wanted - 1 = M) (hM : Msk M) (hn : hs.size ≤ M) :
    ∃ t2 order, t.relaid hs wanted = some (t2, order) ∧ order.toList.Perm (List.range hs.size) ∧ Tab t2 (order.toList.map fun i => hs.getD i 0) ∧ t2.mask = M ∧ t2.led = t.led ∧ t2.plain = t.plain ∧ t2.dummies = #[] := by
  obtain ⟨owner, f, W⟩ := lay_all hM.full hs.toList [] _ (Own.init M) (show 0 + hs.toList.length ≤ M by rw [Array.length_toList]; omega)
  rw [List.nil_append] at f W
  have lc : SetTable.layClean M hs = some owner := by
    rw [layClean_eq]
    exact congrArg (Option.map Prod.fst) f
  have ris := ris_live (fun j => owner.getD j none) (List.range (M + 1)) (List.pairwise_lt_range)
  have r1 : Ris ((liveOf M owner).map (·.1)) := ris.1
  have n1 : ((liveOf M owner).map (·.1)).Nodup := List.Pairwise.imp Nat.ne_of_lt r1
  have lk : ∀ {j k : Nat}, (j, k) ∈ liveOf M owner ↔ j ≤ M ∧ oAt owner j = some k := mem_live W.sz
  have hlen : (liveOf M owner).length = hs.size := by
    obtain ⟨ps, p1, p2⟩ := W.ps
    refine Nat.le_antisymm ?_ ?_
    · have a := nat_nodup_len _ ps n1 fun x hx => by
        obtain ⟨⟨y, k⟩, hq, rfl⟩ := List.mem_map.mp hx
        obtain ⟨b1, b2⟩ := lk.1 hq
        exact p2 y b1 (by rw [b2]; exact Option.some_ne_none k)
      rw [List.length_map, p1] at a
      exact a
    · have b := nat_nodup_len (List.range hs.size) ((liveOf M owner).map (·.2)) List.nodup_range fun k hk => by
        obtain ⟨j, b1, b2⟩ := W.all k (by rw [Array.length_toList]; exact List.mem_range.mp hk)
        exact List.mem_map.mpr ⟨_, lk.2 ⟨b1, b2⟩, rfl⟩
      rw [List.length_map, List.length_range] at b
      exact b
  refine ⟨tabOf t M owner, ((liveOf M owner).map (·.2)).toArray, by rw [relaid_eq, hw, lc]; rfl, ?_, { up := r1, none := rfl, size := ?_, msk := hM, back := fun i h j h1 h2 => ?_ }, rfl, rfl, rfl, rfl⟩
  · refine perm_range _ _ (by rw [List.length_map]; exact hlen) fun k hk => ?_
    obtain ⟨j, b1, b2⟩ := W.all k (by rw [Array.length_toList]; exact hk)
    exact List.mem_map.mpr ⟨_, lk.2 ⟨b1, b2⟩, rfl⟩
  · show (List.toArray ((liveOf M owner).map (·.1))).size = _
    rw [List.size_toArray, List.length_map, List.length_map, List.length_map]
  · replace h1 : (((liveOf M owner).map (·.2)).map fun i => hs.getD i 0)[i]? = some h := h1
    replace h2 : ((liveOf M owner).map (·.1))[i]? = some j := h2
    rw [List.getElem?_map, List.getElem?_map] at h1
    rw [List.getElem?_map] at h2
    cases hq : (liveOf M owner)[i]? with
    | none => rw [hq] at h2; cases h2
    | some q =>
      obtain ⟨y, k⟩ := q
      rw [hq] at h1 h2
      cases h2
      have eh : hs.getD k 0 = h := Option.some.inj h1
      obtain ⟨b1, b2⟩ := lk.1 (List.mem_of_getElem? hq)
      obtain ⟨h0, K, a1, a2, a3⟩ := W.at_ y k b1 b2
      have e0 : hs.getD k 0 = h0 := by
        rw [Array.getD_eq_getD_getElem?, ← Array.getElem?_toList, a1]
        rfl
      obtain rfl : h0 = h := e0.symm.trans eh
      refine ⟨K, a2, fun c hc => ?_⟩
      show way M h0 c ∈ (liveOf M owner).map (·.1)
      obtain ⟨k2, z⟩ := Option.ne_none_iff_exists'.mp (a3 c hc)
      exact List.mem_map.mpr ⟨(way M h0 c, k2), lk.2 ⟨way_bd, z⟩, rfl⟩
theorem size20 : SetTable.sizeAbove (SetTable.grown 5) = 32 := by decide +kernel
theorem size76 : SetTable.sizeAbove (SetTable.grown 19) = 128 := by decide +kernel
theorem size308 : SetTable.sizeAbove (SetTable.grown 77) = 512 := by decide +kernel
end Bs

set_option Elab.async false
set_option linter.all false
set_option maxRecDepth 100000
set_option maxHeartbeats 4000000
set_option autoImplicit false
/-! sets of (nested) tuples of whole numbers: seeking and adding -/
namespace Bs
open PySem PySem.Spec PyProof.Rows L2
abbrev NK := NestedKey
mutual
/-- no text in it -/
def plainK : NK → Bool
  | .none => true
  | .num _ => true
  | .text _ => false
  | .tup ks => plainAll ks
def plainAll : List NK → Bool
  | [] => true
  | k :: ks => plainK k && plainAll ks
end
/-- the tuple at the address is the key -/
def IsN (h : Heap) (k : NK) (a : Addr) : Prop := NestedIs h k (.ref a) ∧ k.depth ≤ 8 ∧ plainK k = true
theorem IsN.inj {h : Heap} {a : Addr} {x y : NK} (hx : IsN h x a) (hy : IsN h y a) : x = y := NestedIs.inj _ _ _ hx.1 hy.1
theorem IsN.keep {h h' : Heap} {k : NK} {a : Addr} (x : IsN h k a) (hk : ∀ b o vs n, h.get? b = some o → o.data = .seq vs n → h'.get? b = some o) : IsN h' k a := ⟨NestedIs.at hk _ _ x.1, x.2⟩
theorem IsN.beside {h h' : Heap} {k : NK} {a b : Addr} {o : Obj} {es : Array (Int × Value)} {ep : Nat} {t : SetTable} (x : IsN h k b) (ho : h.get? a = some o) (hd : o.data = .set es ep t) (hs : Heap.SameBut a h h') : IsN h' k b :=
  x.keep fun c u vs n hc hu => by
    refine (hs.2 c fun e => ?_).trans hc
    rw [e, ho] at hc
    cases hc
    rw [hd] at hu
    cases hu
section
variable {P : Program} {w : World} {A : Around} {E : Value → Shared → Prop} {s : Shared}
/-- asked of v, n levels down, the answer is b at once -/
def Says (P : Program) (w : World) (f : Nat → Value → Sem Bool) (b : Bool) (s : Shared) (n : Nat) (v : Value) : Prop := ∀ (A : Around) (E : Value → Shared → Prop) (Q : Bool → Shared → Prop), Q b s → wpAny (model P w) A (f n v) Q E s
theorem cls_tup {n : Nat} {a : Addr} {o : Obj} {vs : Array Value} {m : Nat} (hg : s.heap.get? a = some o) (hc : o.cls = .type "tuple") (hd : o.data = .seq vs m) (hq : ∀ v ∈ vs.toList, Says P w ofAClassStatement false s n v) : Says P w ofAClassStatement false s (n + 1) (.ref a) := fun A E Q h => by
  have hT : s.TypeIs (.ref a) "tuple" := ⟨o, hg, hc⟩
  unfold ofAClassStatement
  refine wpAny_bind (wpAny_typeOf hT ?_)
  have e : (("tuple" : String) == "tuple") = true := by decide
  dsimp only
  simp only [e, if_true, Bool.not_true, Bool.false_eq_true, if_false]
  try refine wpAny_bind (wpAny_pure ?_)
  try simp only [Bool.not_true, Bool.false_eq_true, if_false]
  refine (show wpAny _ _ (seqItems? (.ref a) >>= _) _ _ s from wpAny_bind (wpAny_seqItems hg hd ?_))
  dsimp only
  refine wpAny_bind ?_
  rw [← Array.forIn_toList]
  refine wpAny_forIn_list _ (fun rest r s1 => r.1 = none ∧ s1 = s ∧ ∀ v ∈ rest, Says P w ofAClassStatement false s n v) _ ?_ ?_ _ _ ⟨rfl, rfl, hq⟩
  · rintro v rest r s1 ⟨hr, rfl, hall⟩
    refine wpAny_bind (hall v (.head _) _ _ _ ?_)
    rw [if_neg Bool.false_ne_true]
    exact wpAny_pure ⟨rfl, rfl, fun u hu => hall u (.tail _ hu)⟩
  · rintro ⟨r1, r2⟩ s1 ⟨hr, rfl, _⟩
    cases hr
    exact wpAny_pure h
theorem hsh_tup {n : Nat} {a : Addr} {o : Obj} {vs : Array Value} {m : Nat} (hg : s.heap.get? a = some o) (hc : o.cls = .type "tuple") (hd : o.data = .seq vs m) (hq : ∀ v ∈ vs.toList, Says P w hashByValue true s n v) : Says P w hashByValue true s (n + 1) (.ref a) := fun A E Q h => by
  have hT : s.TypeIs (.ref a) "tuple" := ⟨o, hg, hc⟩
  unfold hashByValue
  refine wpAny_bind (wpAny_specialOf hT F.slot_tuple_hash.lookup ?_)
  refine (show wpAny _ _ (seqItems? (.ref a) >>= _) _ _ s from wpAny_bind (wpAny_seqItems hg hd ?_))
  refine wpAny_bind ?_
  show wpAny _ _ (forIn vs _ _) _ _ s
  rw [← Array.forIn_toList]
  refine wpAny_forIn_list _ (fun rest r s1 => r.1 = none ∧ s1 = s ∧ ∀ v ∈ rest, Says P w hashByValue true s n v) _ ?_ ?_ _ _ ⟨rfl, rfl, hq⟩
  · rintro v rest r s1 ⟨hr, rfl, hall⟩
    refine wpAny_bind (hall v (.head _) _ _ _ ?_)
    simp only [Bool.not_true, Bool.false_eq_true, if_false]
    exact wpAny_pure ⟨rfl, rfl, fun u hu => hall u (.tail _ hu)⟩
  · rintro ⟨r1, r2⟩ s1 ⟨hr, rfl, _⟩
    cases hr
    exact wpAny_pure h
mutual
theorem cls_key : ∀ (k : NK) (v : Value) (n : Nat), NestedIs s.heap k v → k.depth ≤ n → Says P w ofAClassStatement false s n v
  | .none, _, n, x, _ => by cases x; intro A E Q h; cases n <;> exact wpAny_pure h
  | .num _, _, n, x, _ => by cases x <;> (intro A E Q h; cases n <;> exact wpAny_pure h)
  | .text _, _, n, x, _ => by cases x; intro A E Q h; cases n <;> exact wpAny_pure h
  | .tup ks, _, n, x, hn => by
    cases x with
    | tup hg hc hd hk =>
      rw [NestedKey.depth] at hn
      cases n with
      | zero => omega
      | succ n => exact cls_tup hg hc hd (cls_keys ks _ n hk (by omega))
theorem cls_keys : ∀ (ks : List NK) (vs : List Value) (n : Nat), NestedAll s.heap ks vs → NestedKey.depthAll ks ≤ n → ∀ v ∈ vs, Says P w ofAClassStatement false s n v
  | [], _, n, x, _, v, hv => by cases x; cases hv
  | k :: ks, _, n, x, hn, v, hv => by
    cases x with
    | cons x1 x2 =>
      rw [NestedKey.depthAll] at hn
      rcases List.mem_cons.mp hv with e | hv
      · rw [e]; exact cls_key k _ n x1 (by omega)
      · exact cls_keys ks _ n x2 (by omega) v hv
end
mutual
theorem hsh_key : ∀ (k : NK) (v : Value) (n : Nat), NestedIs s.heap k v → k.depth ≤ n → plainK k = true → Says P w hashByValue true s n v
  | .none, _, n, x, _, _ => by cases x; intro A E Q h; cases n <;> exact wpAny_pure h
  | .num _, _, n, x, _, _ => by cases x <;> (intro A E Q h; cases n <;> exact wpAny_pure h)
  | .text _, _, n, x, _, z => by simp [plainK] at z
  | .tup ks, _, n, x, hn, z => by
    cases x with
    | tup hg hc hd hk =>
      rw [NestedKey.depth] at hn
      rw [plainK] at z
      cases n with
      | zero => omega
      | succ n => exact hsh_tup hg hc hd (hsh_keys ks _ n hk (by omega) z)
theorem hsh_keys : ∀ (ks : List NK) (vs : List Value) (n : Nat), NestedAll s.heap ks vs → NestedKey.depthAll ks ≤ n → plainAll ks = true → ∀ v ∈ vs, Says P w hashByValue true s n v
  | [], _, n, x, _, _, v, hv => by cases x; cases hv
  | k :: ks, _, n, x, hn, z, v, hv => by
    cases x with
    | cons x1 x2 =>
      rw [NestedKey.depthAll] at hn
      rw [plainAll, Bool.and_eq_true] at z
      rcases List.mem_cons.mp hv with e | hv
      · rw [e]; exact hsh_key k _ n x1 (by omega) z.1
      · exact hsh_keys ks _ n x2 (by omega) z.2 v hv
end
/-- a search among such keys shows nothing -/
theorem unseen {k : NK} {b : Addr} {Q : Bool → Shared → Prop} (hk : IsN s.heap k b) {ys : List Value} (hy : ∀ y ∈ ys, ∃ k' c, y = Value.ref c ∧ IsN s.heap k' c) (h : Q false s) : wpAny (model P w) A (searchCouldBeSeen (.ref b) ys) Q E s := by
  unfold searchCouldBeSeen
  refine wpAny_bind ?_
  refine wpAny_forIn_list _ (fun rest r s1 => r.1 = none ∧ s1 = s ∧ ∀ y ∈ rest, ∃ k' c, y = Value.ref c ∧ IsN s.heap k' c) _ ?_ ?_ _ _ ⟨rfl, rfl, hy⟩
  · rintro v rest r s1 ⟨hr, rfl, hall⟩
    obtain ⟨k', c, rfl, hc⟩ := hall v (.head _)
    have rest1 : ∀ y ∈ rest, ∃ k' c, y = Value.ref c ∧ IsN s1.heap k' c := fun u hu => hall u (.tail _ hu)
    dsimp only
    by_cases hv : (b == c || (carriedByValue (.ref b) && carriedByValue (.ref c))) = true
    · exact wp_if_pos hv (wpAny_pure ⟨rfl, rfl, rest1⟩)
    · refine wp_if_neg hv (wpAny_bind (quiet_key k _ 8 s1 hk.1 hk.2.1 _ _ _ ?_))
      simp only [Bool.not_true, Bool.false_eq_true, if_false]
      refine wpAny_bind (quiet_key k' _ 8 s1 hc.1 hc.2.1 _ _ _ ?_)
      simp only [Bool.not_true, Bool.false_eq_true, if_false]
      refine wpAny_bind (cls_key k _ 8 hk.1 hk.2.1 _ _ _ ?_)
      simp only [Bool.false_eq_true, if_false]
      refine wpAny_bind (cls_key k' _ 8 hc.1 hc.2.1 _ _ _ ?_)
      simp only [Bool.false_eq_true, if_false]
      exact wpAny_pure ⟨rfl, rfl, rest1⟩
  · rintro ⟨r1, r2⟩ s1 ⟨hr, rfl, _⟩
    cases hr
    exact wpAny_pure h
end
end Bs

set_option Elab.async false
set_option linter.all false
set_option maxRecDepth 100000
set_option maxHeartbeats 4000000
set_option autoImplicit false
namespace Bs
open PySem PySem.Spec PyProof.Rows L2
section
variable {P : Program} {w : World} {A : Around} {E : Value → Shared → Prop} {s : Shared}
abbrev Ent := Addr × NK
def ents (w : World) (L : List Ent) : List (Int × Value) := L.map fun e => (e.2.hash w, Value.ref e.1)
abbrev hss (w : World) (L : List Ent) : List Int := L.map fun e => e.2.hash w
structure SetN (w : World) (h : Heap) (a : Addr) (L : List Ent) (es : Array (Int × Value)) (ep : Nat) (t : SetTable) : Prop where
  obj : ∃ o, h.get? a = some o ∧ o.ExactSet ∧ o.data = .set es ep t
  its : es.toList = ents w L
  tab : Tab t (hss w L)
  nodup : (L.map (·.2)).Nodup
  keys : ∀ e ∈ L, IsN h e.2 e.1
  pl : t.plain = true
  ld : w.params.followText "set-order" = true ∨ t.led = true
  space : L.length * 5 < t.mask * 3
variable {a : Addr} {L : List Ent} {es : Array (Int × Value)} {ep : Nat} {t : SetTable}
theorem ents_len {L : List Ent} {es : Array (Int × Value)} (h : es.toList = ents w L) : es.size = L.length := by
  rw [← Array.length_toList, h]
  exact List.length_map ..
theorem ents_at {L : List Ent} {es : Array (Int × Value)} (h : es.toList = ents w L) {i : Nat} {e : Ent} (hi : L[i]? = some e) : es[i]? = some (e.2.hash w, Value.ref e.1) := by
  rw [← Array.getElem?_toList, h, ents, List.getElem?_map, hi]
  rfl
theorem SetN.psize (R : SetN w s.heap a L es ep t) : t.place.size = L.length := by
  have := R.tab.size
  rwa [List.length_map] at this
theorem fits_of {n : Nat} (h1 : t.place.size = n) (h2 : t.dummies = #[]) (h3 : n ≤ t.mask) : t.fits n = true := by
  unfold SetTable.fits SetTable.fill
  rw [h2, Bool.and_eq_true, beq_iff_eq, decide_eq_true_eq]
  refine ⟨h1, ?_⟩
  show t.place.size + 0 ≤ t.mask
  omega
theorem SetN.fit (R : SetN w s.heap a L es ep t) : t.fits es.size = true := by
  have := R.space
  rw [ents_len R.its]
  exact fits_of R.psize R.tab.none (by omega)
theorem SetN.stays (R : SetN w s.heap a L es ep t) : ¬ t.gaveWay = true := by
  unfold SetTable.gaveWay
  rw [R.tab.msk.odd]
  decide
theorem nth_dm (m : Nat) : ∀ (n : Nat) (p : SetTable.Probe), p.dummy = none → (nth m p n).dummy = none
  | 0, _, h => h
  | n + 1, p, h => nth_dm m n (adv m p) (by unfold adv; split <;> exact h)
/-- the walk's start -/
abbrev st0 (m : Nat) (h : Int) : SetTable.Probe := runAt m (SetTable.bits h % (m + 1)) (SetTable.bits h)
/-- the search, from the c-th step on -/
theorem seek (R : SetN w s.heap a L es ep t) {x : Addr} {k : NK} (hx : IsN s.heap k x) (hu : A.units + 8 < cLine) {K : Nat} (hKf : K < 10 * SetTable.turns t.mask)
    (hK : way t.mask (k.hash w) K ∉ t.place.toList) (hKb : ∀ c, c < K → way t.mask (k.hash w) c ∈ t.place.toList) {Q : SetFound → Shared → Prop}
    (hin : k ∈ L.map (·.2) → Q (.there none) s) (hout : k ∉ L.map (·.2) → Q (.free (way t.mask (k.hash w) K) false) s) :
    ∀ (f c : Nat) (stand : Option SetTable.Probe), stand.getD (t.probeStart (k.hash w)) = nth t.mask (st0 t.mask (k.hash w)) c → c ≤ K → K - c < f →
      (∀ (i : Nat) e, L[i]? = some e → e.2 = k → ∃ d, c ≤ d ∧ d < K ∧ t.place.toList[i]? = some (way t.mask (k.hash w) d)) →
      wpAny (model P w) A (setSearchFrom a (.ref x) (k.hash w) true f stand) Q E s := by
  intro f
  induction f with
  | zero => intro c _ _ _ hf; omega
  | succ f ih =>
    intro c stand hst hc hf hre
    obtain ⟨o, ho, hex, hd⟩ := R.obj
    generalize eh : k.hash w = H at *
    rw [setSearchFrom_succ]
    refine wpAny_bind (wpAny_setState_of ho hd R.fit ?_)
    dsimp only
    refine wp_if_neg R.stays ?_
    try refine wpAny_bind (wpAny_pure ?_)
    have jw : ∀ q, (nth t.mask (nth t.mask (st0 t.mask H) c) q).j = way t.mask H (c + q) := fun q => by rw [← nth_add]
    have hash_at : ∀ (i : Nat) e, L[i]? = some e → (es[i]?.map (·.1)).getD 0 = e.2.hash w := fun i e hi => by rw [ents_at R.its hi]; rfl
    have spec := go_spec t R.tab.up R.tab.none (fun i => (es[i]?.map (·.1)).getD 0) H (10 * SetTable.turns t.mask) (K - c) (nth t.mask (st0 t.mask H) c) (nth_dm _ _ _ rfl) (by omega)
      (fun q hq => by rw [jw]; exact hKb _ (by omega)) (by rw [jw, Nat.add_sub_cancel' hc]; exact hK)
    rcases spec with ⟨q, i, hq, hi, hh, hno, hpr⟩ | ⟨hno, hpr⟩
    · rw [jw] at hi
      have hpr1 : t.probe (fun i => (es[i]?.map (·.1)).getD 0) H (stand.getD (t.probeStart H)) = some (.candidate (way t.mask H (c + q)) i (nth t.mask (st0 t.mask H) (c + (q + 1)))) := by
        rw [hst, nth_add, ← jw]
        exact hpr
      rw [hpr1]
      dsimp only
      obtain ⟨e, he⟩ : ∃ e, L[i]? = some e := by
        have h1 := (List.getElem?_eq_some_iff.mp hi).1
        rw [Array.length_toList, R.psize] at h1
        exact ⟨_, List.getElem?_eq_getElem h1⟩
      have hm : e ∈ L := List.mem_of_getElem? he
      have sl : t.slot (way t.mask H (c + q)) = .live i := slot_live R.tab.up hi
      have tail : wpAny (model P w) A (searchRest a (.ref x) H true f es t (way t.mask H (c + q)) i (nth t.mask (st0 t.mask H) (c + (q + 1)))) Q E s := by
        unfold searchRest
        rw [ents_at R.its he]
        dsimp only
        refine wpAny_bind (wpAny_holding ((nestedKind P w).eqBool hu (show NestedIs s.heap e.2 (.ref e.1) ∧ e.2.depth ≤ 8 from ⟨(R.keys e hm).1, (R.keys e hm).2.1⟩) (show NestedIs s.heap k (.ref x) ∧ k.depth ≤ 8 from ⟨hx.1, hx.2.1⟩) ?_))
        refine wpAny_bind (wpAny_setState_of ho hd R.fit ?_)
        dsimp only
        by_cases hkk : e.2 = k
        · rw [decide_eq_true hkk]
          exact wp_if_pos rfl (wpAny_pure (hin (List.mem_map.mpr ⟨e, hm, hkk⟩)))
        · rw [decide_eq_false hkk]
          refine wp_if_neg (by decide) ?_
          try refine wpAny_bind (wpAny_pure ?_)
          rw [sameMem]
          dsimp only
          simp only [if_true, sl, ents_at R.its he]
          refine wpAny_bind (wpAny_isSame_ref_self (wpAny_bind (wpAny_pure ?_)))
          simp only [if_true]
          refine wp_if_neg (by decide) (ih (c + (q + 1)) _ rfl (by omega) (by omega) fun i0 e0 h0 hk0 => ?_)
          obtain ⟨d, a1, a2, a3⟩ := hre i0 e0 h0 hk0
          suffices hd2 : ¬ d ≤ c + q from ⟨d, by omega, a2, a3⟩
          intro z
          rcases Nat.lt_or_eq_of_le z with z | z
          · refine hno (d - c) i0 (by omega) (by rw [jw, Nat.add_sub_cancel' a1]; exact a3) ?_
            rw [hash_at i0 e0 h0, hk0, eh]
          · rw [z] at a3
            have s0 := slot_live R.tab.up a3
            rw [sl] at s0
            cases s0
            rw [he] at h0
            cases h0
            exact hkk hk0
      by_cases hl : t.led = true
      · refine wp_if_neg (by rw [hl]; decide) ?_
        try refine wpAny_bind (wpAny_pure ?_)
        exact tail
      · refine wp_if_pos (by rw [Bool.not_eq_true] at hl; rw [hl]; rfl) (wpAny_bind (unseen hx (fun y hy => ?_) ?_))
        · obtain ⟨u, hu1, hu2⟩ := List.mem_map.mp hy
          have hu3 : u ∈ es.toList := by
            have : u ∈ es ∧ u.1 = H := by simpa using hu1
            simpa using this.1
          rw [R.its] at hu3
          obtain ⟨e2, h2, h3⟩ := List.mem_map.mp hu3
          exact ⟨e2.2, e2.1, by rw [← hu2, ← h3], R.keys e2 h2⟩
        · refine wp_if_neg (by decide) ?_
          try refine wpAny_bind (wpAny_pure ?_)
          exact tail
    · have hpr1 : t.probe (fun i => (es[i]?.map (·.1)).getD 0) H (stand.getD (t.probeStart H)) = some (.empty (way t.mask H K) none) := by
        rw [hst, show way t.mask H K = (nth t.mask (nth t.mask (st0 t.mask H) c) (K - c)).j by rw [jw, Nat.add_sub_cancel' hc]]
        exact hpr
      rw [hpr1]
      dsimp only
      refine wpAny_pure (hout fun hm => ?_)
      obtain ⟨e0, h0, hk0⟩ := List.mem_map.mp hm
      obtain ⟨i0, hi0⟩ := List.mem_iff_getElem?.mp h0
      obtain ⟨d, a1, a2, a3⟩ := hre i0 e0 hi0 hk0
      refine hno (d - c) i0 (by omega) (by rw [jw, Nat.add_sub_cancel' a1]; exact a3) ?_
      rw [hash_at i0 e0 hi0, hk0, eh]
theorem sought (R : SetN w s.heap a L es ep t) {x : Addr} {k : NK} (hx : IsN s.heap k x) (hu : A.units + 8 < cLine) {Q : SetFound → Shared → Prop} (hin : k ∈ L.map (·.2) → Q (.there none) s)
    (hout : ∀ K, k ∉ L.map (·.2) → way t.mask (k.hash w) K ∉ t.place.toList → (∀ c, c < K → way t.mask (k.hash w) c ∈ t.place.toList) → Q (.free (way t.mask (k.hash w) K) false) s) :
    wpAny (model P w) A (setSearch a (.ref x) (k.hash w) true) Q E s := by
  have hroom := R.space
  have hle := R.tab.msk.le
  obtain ⟨K, hKf, hK, hKb⟩ := R.tab.hole (by rw [List.length_map]; omega) (k.hash w)
  have hbig : K < 10 * (t.mask + 15) := hKf
  unfold setSearch
  refine seek R hx hu hKf hK hKb hin (fun hn => hout K hn hK hKb) 100000 0 none rfl (Nat.zero_le _) (by omega) fun i e hi hk => ?_
  have h1 : (hss w L)[i]? = some (k.hash w) := by rw [List.getElem?_map, hi, ← hk]; rfl
  have h2 : i < t.place.toList.length := by
    rw [Array.length_toList, R.psize]
    exact (List.getElem?_eq_some_iff.mp hi).1
  obtain ⟨c, hc, e⟩ := R.tab.ahead hK h1 (List.getElem?_eq_getElem h2)
  exact ⟨c, Nat.zero_le _, hc, by rw [e]; exact List.getElem?_eq_getElem h2⟩
theorem ents_order (L : List Ent) (es : Array (Int × Value)) (order : Array Nat) (hr : es.toList = ents w L) (hp : order.toList.Perm (List.range L.length)) :
    ∃ L2, (order.filterMap (es[·]?)).toList = ents w L2 ∧ L2.Perm L ∧ hss w L2 = order.toList.map fun i => (es.map (·.1)).getD i 0 := by
  have key : ∀ l : List Nat, (∀ i ∈ l, i < L.length) → l.filterMap (fun i => es[i]?) = ents w (l.filterMap fun i => L[i]?) ∧ hss w (l.filterMap fun i => L[i]?) = l.map fun i => (es.map (·.1)).getD i 0 := by
    intro l
    induction l with
    | nil => intro _; exact ⟨rfl, rfl⟩
    | cons i l ih =>
      intro hl
      obtain ⟨e1, e2⟩ := ih fun j hj => hl j (.tail _ hj)
      have g := List.getElem?_eq_getElem (hl i (.head _))
      have g2 := ents_at hr g
      have g3 : (es.map (·.1)).getD i 0 = (L[i]'(hl i (.head _))).2.hash w := by
        rw [Array.getD_eq_getD_getElem?, Array.getElem?_map, g2]
        rfl
      refine ⟨?_, ?_⟩
      · rw [List.filterMap_cons_some g2, List.filterMap_cons_some g, e1]
        rfl
      · rw [List.filterMap_cons_some g, List.map_cons, g3, ← e2]
        rfl
  obtain ⟨k1, k2⟩ := key order.toList fun i hi => List.mem_range.mp (hp.mem_iff.mp hi)
  refine ⟨_, by first | (rw [Array.toList_filterMap]; exact k1) | simpa using k1, ?_, k2⟩
  have all : (List.range L.length).filterMap (fun i => L[i]?) = L := by
    clear hr hp key k1 k2
    induction L with
    | nil => rfl
    | cons e L ih =>
      rw [List.length_cons, List.range_succ_eq_map, List.filterMap_cons, List.filterMap_map]
      exact congrArg (List.cons e) ih
  have pm := hp.filterMap fun i => L[i]?
  rwa [all] at pm
end
end Bs

set_option Elab.async false
set_option linter.all false
set_option maxRecDepth 100000
set_option maxHeartbeats 4000000
set_option autoImplicit false
namespace Bs
open PySem PySem.Spec PyProof.Rows L2
section
variable {P : Program} {w : World} {A : Around} {E : Value → Shared → Prop} {s : Shared}
variable {a : Addr} {L : List Ent} {es : Array (Int × Value)} {ep : Nat} {t : SetTable}
/-- laid anew -/
theorem relay {o : Obj} (ho : s.heap.get? a = some o) (hex : o.ExactSet) (hd : o.data = .set es ep t) (hr : es.toList = ents w L) (hsz : t.place.size = L.length) (hdm : t.dummies = #[]) (hfl : L.length ≤ t.mask)
    (nd : (L.map (·.2)).Nodup) (ks : ∀ e ∈ L, IsN s.heap e.2 e.1) (pl : t.plain = true) (ld : w.params.followText "set-order" = true ∨ t.led = true) {wanted M : Nat}
    (hw : SetTable.sizeAbove wanted = M + 1) (hM : Msk M) (hn : L.length * 5 < M * 3) {Q : Unit → Shared → Prop}
    (hQ : ∀ h1 L1 es1 ep1 t1, Heap.SameBut a s.heap h1 → SetN w h1 a L1 es1 ep1 t1 → L1.Perm L → Q () { s with heap := h1 }) : wpAny (model P w) A (setRelay a wanted) Q E s := by
  have hle := hM.le
  have hsl := ents_len hr
  obtain ⟨t1, order, e, hp, T, em, el, epl, ed⟩ := relaid (t := t) (hs := es.map (·.1)) (wanted := wanted) (by rw [hw]; rfl) hM (by rw [Array.size_map, hsl]; omega)
  rw [Array.size_map, hsl] at hp
  obtain ⟨L2, r1, r2, r3⟩ := ents_order L es order hr hp
  rw [← r3] at T
  have hs2 : (order.filterMap (es[·]?)).size = es.size := by rw [ents_len r1, r2.length_eq, hsl]
  rw [setRelay_eq]
  refine wpAny_bind (wpAny_setState_of ho hd (by rw [hsl]; exact fits_of hsz hdm hfl) ?_)
  dsimp only
  refine wp_if_neg (by rw [sizeLine_eq, hw]; omega) ?_
  try refine wpAny_bind (wpAny_pure ?_)
  rw [e]
  dsimp only
  refine wpAny_bind (wp_if_neg (by rw [hs2]; simp) ?_)
  try refine wpAny_bind (wpAny_pure ?_)
  refine wpAny_pure ?_
  dsimp only
  have sb : Heap.SameBut a s.heap (s.heap.update a (Obj.putSet (order.filterMap (es[·]?)) t1)) := Heap.SameBut.update ..
  refine wpAny_storeSet_of ho hd (hQ _ L2 _ (ep + 1) t1 sb { obj := ⟨_, store_at ho hd, ⟨hex.1, hex.2.1, hex.2.2⟩, rfl⟩, its := r1, tab := T, nodup := (r2.map (·.2)).nodup_iff.mpr nd, keys := fun e he => (ks e (r2.mem_iff.mp he)).beside ho hd sb, pl := by rw [epl]; exact pl, ld := by rw [el]; exact ld, space := by rw [r2.length_eq, em]; exact hn } r2) (by rw [hs2, hsl, sizeLine_eq]; omega)
/-- how a full table of each size is laid anew -/
theorem next_size {m n : Nat} (hm : Msk m) (h1 : n * 5 < m * 3) (h2 : (n + 1) * 5 ≥ m * 3) (h3 : n + 1 < 307) : ∃ M, SetTable.sizeAbove (SetTable.grown (n + 1)) = M + 1 ∧ Msk M ∧ (n + 1) * 5 < M * 3 := by
  rcases hm with e | e | e | e
  · obtain rfl : n = 4 := by omega
    exact ⟨31, size20, .inr (.inl rfl), by omega⟩
  · obtain rfl : n = 18 := by omega
    exact ⟨127, size76, .inr (.inr (.inl rfl)), by omega⟩
  · obtain rfl : n = 76 := by omega
    exact ⟨511, size308, .inr (.inr (.inr rfl)), by omega⟩
  · omega
theorem ents_put (L : List Ent) (p : Nat) (e : Ent) : ents w (L.take p ++ e :: L.drop p) = (ents w L).take p ++ (e.2.hash w, Value.ref e.1) :: (ents w L).drop p := by
  simp only [ents, List.map_append, List.map_cons, List.map_take, List.map_drop]
/-- adding one -/
theorem adds (R : SetN w s.heap a L es ep t) {x : Addr} {k : NK} (hx : IsN s.heap k x) (hu : A.units + 8 < cLine) (hfew : k ∉ L.map (·.2) → L.length + 1 < 307) {Q : Bool → Shared → Prop}
    (hQ : ∀ b h1 L1 es1 ep1 t1, Heap.SameBut a s.heap h1 → SetN w h1 a L1 es1 ep1 t1 → (k ∈ L.map (·.2) → L1 = L) → (k ∉ L.map (·.2) → L1.Perm ((x, k) :: L)) → Q b { s with heap := h1 }) :
    wpAny (model P w) A (setAddHashed a (.ref x) (k.hash w)) Q E s := by
  obtain ⟨o, ho, hex, hd⟩ := R.obj
  unfold setAddHashed
  refine wpAny_holding ?_
  rw [show (100000 : Nat) = 99999 + 1 from rfl, setAddHashedIn_succ]
  refine wpAny_bind (wpAny_setState_of ho hd R.fit ?_)
  dsimp only
  refine wp_if_neg (by simp [byScan, Value.scannable]) ?_
  try refine wpAny_bind (wpAny_pure ?_)
  refine wpAny_bind (sought R hx hu (fun hm => wpAny_pure (hQ false s.heap L es ep t (Heap.SameBut.refl a s.heap) R (fun _ => rfl) fun z => absurd hm z)) fun K hm hK hb => ?_)
  dsimp only
  refine wpAny_bind (wpAny_setState_of ho hd R.fit ?_)
  dsimp only
  obtain ⟨q1, q2, q3⟩ := R.tab.more hK hb rfl
  have p2 : (t.put (way t.mask (k.hash w) K)).2 = SetTable.below t.place (way t.mask (k.hash w) K) := rfl
  have pp : (t.put (way t.mask (k.hash w) K)).1.plain = true := R.pl
  have pm' : (t.put (way t.mask (k.hash w) K)).1.mask = t.mask := rfl
  have pl' : (t.put (way t.mask (k.hash w) K)).1.led = t.led := rfl
  generalize ept : t.put (way t.mask (k.hash w) K) = pt at q2 q3 p2 pp pm' pl' ⊢
  obtain ⟨t1, p⟩ := pt
  dsimp only at q2 q3 p2 pp pm' pl' ⊢
  rw [← p2] at q1 q2
  have hv : Says P w hashByValue true s 8 (.ref x) := hsh_key k _ 8 hx.1 hx.2.1 hx.2.2
  first
    | (refine wpAny_bind ?_; refine wp_if_pos pp (hv _ _ _ ?_))
    | refine wp_if_pos pp (wpAny_bind (hv _ _ _ ?_))
  simp only [if_true]
  have hin : (SetTable.insertAt es p (k.hash w, Value.ref x)).toList = ents w (L.take p ++ (x, k) :: L.drop p) := by rw [SetTable.toList_insertAt, ents_put, R.its]
  have hh : hss w (L.take p ++ (x, k) :: L.drop p) = (hss w L).take p ++ k.hash w :: (hss w L).drop p := by simp only [List.map_append, List.map_cons, List.map_take, List.map_drop]
  rw [← hh] at q2
  have pm := put_perm L p (x, k)
  generalize SetTable.insertAt es p (k.hash w, Value.ref x) = es1 at hin ⊢
  generalize L.take p ++ (x, k) :: L.drop p = L1 at pm q2 hin
  have len : L1.length = L.length + 1 := pm.length_eq
  have nd1 : (L1.map (·.2)).Nodup := (pm.map (·.2)).nodup_iff.mpr (List.nodup_cons.mpr ⟨hm, R.nodup⟩)
  have hs1 := ents_len hin
  have few := hfew hm
  refine wpAny_bind (wpAny_storeSet_of ho hd ?_ (by rw [hs1, len, sizeLine_eq]; omega))
  have sb : Heap.SameBut a s.heap (s.heap.update a (Obj.putSet es1 t1)) := Heap.SameBut.update ..
  have ho1 := store_at (es' := es1) (t' := t1) ho hd
  generalize s.heap.update a (Obj.putSet es1 t1) = h1 at sb ho1 ⊢
  have ks1 : ∀ e ∈ L1, IsN h1 e.2 e.1 := fun e he => by
    rcases List.mem_cons.mp (pm.mem_iff.mp he) with z | z
    · rw [z]; exact hx.beside ho hd sb
    · exact (R.keys e z).beside ho hd sb
  have ld1 : w.params.followText "set-order" = true ∨ t1.led = true := by rw [pl']; exact R.ld
  rw [List.length_map] at q3
  have full : t1.tooFull = decide ((L.length + 1) * 5 ≥ t1.mask * 3) := by
    unfold SetTable.tooFull
    rw [q3]
  have ts : t1.place.size = L1.length := by have := q2.size; rwa [List.length_map] at this
  by_cases hf : (L.length + 1) * 5 ≥ t1.mask * 3
  · rw [decide_eq_true hf] at full
    first
      | (refine wpAny_bind ?_; refine wp_if_pos (by rw [full]; rfl) ?_)
      | (refine wp_if_pos (by rw [full]; rfl) ?_; refine wpAny_bind ?_)
    rw [pm'] at hf
    obtain ⟨M, g1, g2, g3⟩ := next_size R.tab.msk R.space hf few
    rw [ents_len R.its]
    refine relay (s := { s with heap := h1 }) (L := L1) ho1 ⟨hex.1, hex.2.1, hex.2.2⟩ rfl hin ts q2.none (by rw [len, pm']; have := R.space; have := R.tab.msk; rcases this with e | e | e | e <;> omega) nd1 ks1 pp ld1 g1 g2 (by rw [len]; exact g3) fun h2 L2 es2 ep2 t2 sb2 R2 pm2 => ?_
    exact wpAny_pure (hQ true h2 L2 es2 ep2 t2 (sb.trans sb2) R2 (fun z => absurd z hm) fun _ => pm2.trans pm)
  · rw [decide_eq_false hf] at full
    first
      | refine wp_if_neg (by rw [full]; decide) ?_
      | (refine wpAny_bind ?_; refine wp_if_neg (by rw [full]; decide) ?_; refine wpAny_pure ?_)
    exact wpAny_pure (hQ true h1 L1 es1 (ep + 1) t1 sb { obj := ⟨_, ho1, ⟨hex.1, hex.2.1, hex.2.2⟩, rfl⟩, its := hin, tab := q2, nodup := nd1, keys := ks1, pl := pp, ld := ld1, space := by rw [len]; omega } (fun z => absurd z hm) fun _ => pm)
/-- what has come in of the first i -/
structure Came (ks : List Ent) (i : Nat) (L : List Ent) : Prop where
  sub : ∀ e ∈ L, e ∈ ks.take i
  all : ∀ e ∈ ks.take i, e.2 ∈ L.map (·.2)
theorem SetN.kept {h h' : Heap} (R : SetN w h a L es ep t) (ha : ∀ o, h.get? a = some o → h'.get? a = some o) (ht : ∀ e ∈ L, IsN h' e.2 e.1) : SetN w h' a L es ep t := by
  obtain ⟨o, ho, r⟩ := R.obj
  exact { R with obj := ⟨o, ha o ho, r⟩, keys := ht }
theorem setN_new {h : Heap} (ho : h.get? a = some { cls := .type "set", dict := none, data := .set #[] 0 (.fresh 0 0 (!w.params.followText "set-order")) }) : SetN w h a [] #[] 0 (.fresh 0 0 (!w.params.followText "set-order")) where
  obj := ⟨_, ho, ⟨rfl, rfl, rfl⟩, rfl⟩
  its := rfl
  tab := { up := List.Pairwise.nil, none := rfl, size := rfl, msk := .inl rfl, back := fun i h j hi => by simp at hi }
  nodup := List.nodup_nil
  keys := fun e he => by cases he
  pl := rfl
  ld := by
    show _ ∨ (!w.params.followText "set-order") = true
    cases w.params.followText "set-order" <;> simp
  space := show 0 * 5 < 7 * 3 by decide
/-- distinct keys among the first ones are no more than among all -/
theorem came_few {ks : List Ent} {i n : Nat} (hn : ∀ l : List NK, l.Nodup → (∀ k ∈ l, k ∈ ks.map (·.2)) → l.length ≤ n) {L : List Ent} (g : Came ks i L) (nd : (L.map (·.2)).Nodup) {e : Ent} (he : ks[i]? = some e) (hm : e.2 ∉ L.map (·.2)) : L.length + 1 ≤ n := by
  have := hn (e.2 :: L.map (·.2)) (List.nodup_cons.mpr ⟨hm, nd⟩) fun k hk => by
    rcases List.mem_cons.mp hk with z | z
    · rw [z]; exact List.mem_map.mpr ⟨e, List.mem_of_getElem? he, rfl⟩
    · obtain ⟨u, hu, rfl⟩ := List.mem_map.mp z
      exact List.mem_map.mpr ⟨u, List.mem_of_mem_take (g.sub u hu), rfl⟩
  rwa [List.length_cons, List.length_map] at this
end
end Bs

set_option Elab.async false
set_option linter.all false
set_option maxRecDepth 100000
set_option maxHeartbeats 4000000
set_option autoImplicit false
namespace Bs
open PySem PySem.Spec PyProof.Rows L2
section
variable {P : Program} {w : World} {A : Around} {E : Value → Shared → Prop} {s : Shared}
/-- the loop of set.update over keys -/
theorem fill_loop {I : Addr} {fp wr : List Addr} {G : Array GenState → Array GenState → Prop} {n : Nat} {Pv : Nat → Value → Prop} {St : Nat → Shared → Prop} {R : Result → Shared → Prop}
    (W : WalksS P w A.in1 I fp wr G n Pv St) (S : Addr) (offS : S ∉ fp) (ks : List Ent) (len : n = ks.length) (few : ∀ l : List NK, l.Nodup → (∀ k ∈ l, k ∈ ks.map (·.2)) → l.length ≤ 306) (val : ∀ i v, Pv i v → ∃ e, ks[i]? = some e ∧ v = .ref e.1)
    (h0 : Heap) (kk : ∀ e ∈ ks, IsN h0 e.2 e.1) (newS : h0.get? S = none) (newW : ∀ b ∈ wr, h0.get? b = none) (room : A.in1.units + 8 < cLine) :
    ∀ (left i : Nat) (s : Shared), i + left = n → St i s → (∀ b o, h0.get? b = some o → s.heap.get? b = some o) → (∃ L es ep t, SetN w s.heap S L es ep t ∧ Came ks i L) →
      (∀ s1 L es ep t, Moved (S :: wr) G s s1 → SetN w s1.heap S L es ep t → Came ks n L → (∀ b o, h0.get? b = some o → s1.heap.get? b = some o) → R (.ok (.ret .none)) s1) →
      codeAny (model P w) A (.builtin "set.update.loop" ⟨[.ref S, .ref I], []⟩) R s := by
  have offW : S ∉ wr := fun z => offS (W.sub _ z)
  have wider : ∀ b ∈ wr, b ∈ S :: wr := fun b hb => .tail _ hb
  have old : ∀ {s s1 : Shared}, Moved wr G s s1 → (∀ b o, h0.get? b = some o → s.heap.get? b = some o) → ∀ b o, h0.get? b = some o → s1.heap.get? b = some o := fun mv hk b o e =>
    mv.heap b o (fun hb => by rw [newW b hb] at e; cases e) (hk b o e)
  have keepN : ∀ {h h1 : Heap} {k : NK} {b : Addr}, IsN h k b → (∀ c o, h.get? c = some o → h1.get? c = some o) → IsN h1 k b := fun x hk => x.keep fun c o _ _ e _ => hk c o e
  intro left
  induction left with
  | zero =>
    intro i s hi hst hk ⟨L, es, ep, t, hS, g⟩ hR
    rw [Nat.add_zero] at hi
    subst hi
    refine codeAny_builtin F.entry_set_update_loop ?_
    rw [Around.under_plainId F.plain_set_update_loop _]
    refine (show wpAny _ A.in1 (pyNext (.ref I) >>= _) _ _ s from wpAny_bind (W.done s _ _ hst fun s1 mv => ?_))
    have hk1 := old mv hk
    refine (show wpAny _ A.in1 (ret Value.none) _ _ s1 from wpAny_pure (hR s1 L es ep t (mv.mono wider) (hS.kept (fun o e => mv.heap S o offW e) fun e he => ?_) g hk1))
    exact keepN (kk e (List.mem_of_mem_take (g.sub e he))) hk1
  | succ left ih =>
    intro i s hi hst hk ⟨L, es, ep, t, hS, g⟩ hR
    have lt : i < n := by omega
    refine codeAny_builtin F.entry_set_update_loop ?_
    rw [Around.under_plainId F.plain_set_update_loop _]
    refine (show wpAny _ A.in1 (pyNext (.ref I) >>= _) _ _ s from wpAny_bind (W.item i s _ _ lt hst fun v s1 hP hst1 mv => ?_))
    obtain ⟨e, he, rfl⟩ := val i v hP
    have hk1 := old mv hk
    have hS1 : SetN w s1.heap S L es ep t := hS.kept (fun o q => mv.heap S o offW q) fun u hu => keepN (kk u (List.mem_of_mem_take (g.sub u hu))) hk1
    have hx : IsN s1.heap e.2 e.1 := keepN (kk e (List.mem_of_getElem? he)) hk1
    refine (show wpAny _ A.in1 (holding [Value.ref e.1] (setAdd S (.ref e.1)) >>= _) _ _ s1 from wpAny_bind (wpAny_holding ?_))
    unfold setAdd
    refine wpAny_holding (wpAny_bind ((nestedKind P w).pyHash room (show NestedIs s1.heap e.2 (.ref e.1) ∧ e.2.depth ≤ 8 from ⟨hx.1, hx.2.1⟩) ?_))
    have few1 : e.2 ∉ L.map (·.2) → L.length + 1 < 307 := fun z => Nat.lt_succ_of_le (came_few few g hS.nodup he z)
    refine adds (s := { s1 with toks := s1.toks + e.2.draws }) hS1 hx room few1 fun b h1 L1 es1 ep1 t1 sb hS2 c1 c2 => ?_
    have tk : ks.take (i + 1) = ks.take i ++ [e] := take_next he
    have g1 : Came ks (i + 1) L1 := by
      by_cases c : e.2 ∈ L.map (·.2)
      · rw [c1 c]
        refine ⟨fun u hu => by rw [tk]; exact List.mem_append_left _ (g.sub u hu), fun u hu => ?_⟩
        rw [tk, List.mem_append, List.mem_singleton] at hu
        rcases hu with z | z
        · exact g.all u z
        · rw [z]; exact c
      · have pm := c2 c
        refine ⟨fun u hu => ?_, fun u hu => (pm.map (·.2)).mem_iff.mpr ?_⟩
        · rw [tk, List.mem_append, List.mem_singleton]
          rcases List.mem_cons.mp (pm.mem_iff.mp hu) with z | z
          · exact .inr z
          · exact .inl (g.sub u z)
        · rw [tk, List.mem_append, List.mem_singleton] at hu
          rw [List.map_cons]
          rcases hu with z | z
          · exact .tail _ (g.all u z)
          · rw [z]; exact .head _
    have hk2 : ∀ b o, h0.get? b = some o → h1.get? b = some o := fun b o q => (sb.2 b fun z => by rw [z, newS] at q; cases q).trans (hk1 b o q)
    refine wpAny_pure ⟨plainId_quiet F.plain_set_update_loop _, ih (i + 1) _ (by omega) (W.frame _ s1 _ _ hst1 (Nat.le_add_right _ _) fun b hb o q => ?_) hk2 ⟨L1, es1, ep1, t1, hS2, g1⟩ fun s2 L2 es2 ep2 t2 mv2 hS3 g2 hk3 => ?_⟩
    · rw [sb.2 b fun z : b = S => offS (by rw [← z]; exact hb)]; exact q
    · refine hR s2 L2 es2 ep2 t2 (Moved.trans W.gtrans ((mv.mono wider).then_heap (Nat.le_add_right _ _) fun b o hb q => ?_) mv2) hS3 g2 hk3
      rw [sb.2 b fun z : b = S => hb (by rw [z]; exact .head _)]; exact q
end
abbrev newSet (w : World) : Obj := { cls := .type "set", dict := none, data := .set #[] 0 (.fresh 0 0 (!w.params.followText "set-order")) }
section
variable {P : Program} {w : World} {A : Around} {E : Value → Shared → Prop} {s : Shared}
set_option maxHeartbeats 6400000 in
/-- set(xs), xs a list of keys -/
theorem make_set {l : Addr} {items : Array Value} (ks : List Ent) {Q : Value → Shared → Prop} (hh : A.handled = none) (hl : s.heap.IsList l items) (hit : items.toList = ks.map fun e => Value.ref e.1)
    (kk : ∀ e ∈ ks, IsN s.heap e.2 e.1) (few : ∀ l : List NK, l.Nodup → (∀ k ∈ l, k ∈ ks.map (·.2)) → l.length ≤ 306) (hu : A.units + 20 < cLine)
    (h : ∀ (h1 : Heap) (tk : Nat) L es ep t, SetN w h1 s.heap.objs.size L es ep t → Came ks ks.length L → (∀ b o, s.heap.get? b = some o → h1.get? b = some o) → Q (.ref s.heap.objs.size) { s with heap := h1, toks := tk }) :
    wpAny (model P w) A (call (.type "set") [.ref l]) Q E s := by
  have hisz : items.size = ks.length := by rw [← Array.length_toList, hit]; exact List.length_map ..
  obtain ⟨c, tl, hmro⟩ := F.called_set.mro
  have hmade := F.called_set.made
  have hsub := F.called_set.sub
  refine wpAny_call (codeAny_of_tree (show wpAny _ _ (callAny (.type "set") _) _ _ _ from wpAny_pure ⟨Code.quiet_builtin _ (by decide +kernel), codeAny_builtin F.entry_type_call ?_⟩))
  rw [Around.under_plain (weight_type_call_type "set" [.ref l] []) rfl]
  have f1 := F.called_set.notType
  have f2 := F.called_set.canCreate
  have f3 := F.typeCall_set_1 (.ref l)
  repeat (any_goals (first | assumption | wp_step))
  refine codeAny_mono (code_set_led1 (.ref l) (E := E) (Q₁ := fun x s1 => x = .ref s.heap.objs.size ∧ s1 = { s with heap := s.heap.push (newSet w) }) ⟨rfl, rfl⟩) fun r s1 hr => ?_
  cases r with
  | error e => exact hr
  | ok fl =>
    cases fl with
    | ret x =>
      obtain ⟨rfl, rfl⟩ := hr
      have gS : (s.heap.push (newSet w)).get? s.heap.objs.size = some (newSet w) := Heap.get?_push_size _ rfl
      have hT : Shared.TypeIs { s with heap := s.heap.push (newSet w) } (.ref s.heap.objs.size) "set" := ⟨_, gS, rfl⟩
      have f4 := F.called_set.init.lookup
      have f5 := F.called_set.init.bind (.ref s.heap.objs.size)
      repeat (any_goals (first | assumption | wp_step))
      refine codeAny_mono (codeAny_call_builtin (R := wants (fun r s2 => r = .none ∧ ∃ h1 tk L es ep t, s2 = { s with heap := h1, toks := tk } ∧ SetN w h1 s.heap.objs.size L es ep t ∧ Came ks ks.length L ∧ ∀ b o, s.heap.get? b = some o → h1.get? b = some o) E)
        F.called_set.init.plain F.entry_set_init (check_set_init_1 hT ?_)) fun r2 s2 hr2 => ?_
      · obtain ⟨⟨ocls, odict, odata, oslots⟩, hol, hcl, nl, hdl⟩ := hl
        simp only at hcl hdl
        subst hcl hdl
        have gl : (s.heap.push (newSet w)).get? l = some { cls := .type "list", dict := odict, data := .seq items nl, slots := oslots } := Heap.get?_push_of_some _ hol
        have f6 := F.sub_list_set
        have f7 := F.sub_list_frozenset
        have f8 : (Value.type "list" == Value.type "dict") = false := by decide
        have gl1 : (s.heap.push (newSet w)).IsList l items := ⟨_, gl, rfl, nl, rfl⟩
        unfold Builtin.«set.__init__» noKeywords Builtin.Frozenset.updateFrom
        generalize hPI : pyIter = PI
        wp_walk
        subst hPI
        refine wpAny_pyIter_list gl1 (wpAny_bind (wpAny_runValue ?_))
        have lS : l < s.heap.objs.size := Heap.lt_size hol
        have hh3 : A.in1.in1.in1.handled = none := by simp [hh]
        have sz1 : (s.heap.push (newSet w)).objs.size = s.heap.objs.size + 1 := Heap.size_push ..
        have ne1 : l ≠ (s.heap.push (newSet w)).objs.size := by rw [sz1]; exact Nat.ne_of_lt (Nat.lt_succ_of_lt lS)
        have gS2 : ((s.heap.push (newSet w)).push { cls := .type "list_iterator", data := .fields #[.ref l, .int 0 0] }).get? s.heap.objs.size = some (newSet w) := Heap.get?_push_of_some _ gS
        have came0 : Came ks 0 [] := ⟨fun e he => (by cases he), fun e he => (by cases he)⟩
        have off : s.heap.objs.size ∉ [(s.heap.push (newSet w)).objs.size, l] := by
          rw [sz1]
          intro z
          rcases List.mem_cons.mp z with z | z
          · exact absurd z (Nat.ne_of_lt (Nat.lt_succ_self _))
          · exact absurd (List.mem_singleton.mp z) (Nat.ne_of_gt lS)
        have val : ∀ (i : Nat) (v : Value), items[i]? = some v → ∃ e, ks[i]? = some e ∧ v = .ref e.1 := fun i v hv => by
          rw [← Array.getElem?_toList, hit, List.getElem?_map] at hv
          obtain ⟨e, he, q⟩ := Option.map_eq_some_iff.mp hv
          exact ⟨e, he, q.symm⟩
        have none_of : ∀ b, s.heap.objs.size ≤ b → s.heap.get? b = none := fun b hb => by
          cases q : s.heap.get? b with
          | none => rfl
          | some o => exact absurd (Heap.lt_size q) (Nat.not_lt.mpr hb)
        refine fill_loop ((Walks.list hh3 _ l ne1 items).toS) s.heap.objs.size off ks hisz few val s.heap kk (none_of _ (Nat.le_refl _)) (fun b hb => none_of b ?wr) ?un items.size 0 _ (Nat.zero_add _)
          ⟨⟨_, Heap.get?_push_size _ rfl, rfl, rfl⟩, gl1.push _⟩ (fun b o e => Heap.get?_push_of_some _ (Heap.get?_push_of_some _ e)) ⟨[], #[], 0, _, setN_new gS2, came0⟩ ?done
        case wr => rw [List.mem_singleton.mp hb, sz1]; exact Nat.le_succ _
        case un => simp only [Around.in1_units]; omega
        case done =>
          intro s3 L es ep t mv hS g hk
          obtain ⟨h3, g3, d3, tk3, os3⟩ := s3
          obtain rfl : g3 = s.gens := mv.gens
          obtain rfl : d3 = s.drawn := mv.drawn
          obtain rfl : os3 = s.os := mv.os
          rw [hisz] at g
          refine (show wpAny _ _ _ _ _ _ from wpAny_pure ?_)
          exact (show wpAny _ _ (ret Value.none) _ _ _ from wpAny_pure ⟨rfl, h3, tk3, L, es, ep, t, rfl, hS, g, hk⟩)
      · cases r2 with
        | error e => exact hr2
        | ok fl2 =>
          cases fl2 with
          | ret r =>
            obtain ⟨rfl, h1, tk, L, es, ep, t, rfl, hS, g, hk⟩ := hr2
            repeat (any_goals (first | assumption | wp_step))
            exact h _ _ _ _ _ _ hS g hk
          | _ => exact hr2.elim
    | _ => exact hr.elim
end
end Bs

set_option Elab.async false
set_option linter.all false
set_option maxRecDepth 100000
set_option maxHeartbeats 4000000
set_option autoImplicit false
/-! sorted(set(xs)) at the heap's level: keys are plain nested tuples of whole numbers -/
namespace Bs
open PySem PySem.W PySem.Calls PyProof.Rows L2
abbrev dtN (e : Ent) : PyData := e.2.data
section
variable {P : Program} {w : World} {A : Around} {E : Value → Shared → Prop} {s : Shared}
mutual
theorem nested_of {h : Heap} : ∀ (k : NK) (v : Value) (as : List Addr), Reads h v k.data as → plainK k = true → NestedIs h k v
  | .none, _, _, r, _ => by rw [NestedKey.data] at r; cases r; exact .none
  | .num i, _, _, r, _ => by rw [NestedKey.data] at r; cases r; exact .int i _
  | .text x, _, _, _, z => by simp [plainK] at z
  | .tup ks, _, _, r, z => by
    rw [NestedKey.data] at r
    rw [plainK] at z
    cases r with
    | tuple h1 h2 h3 h4 => exact .tup h1 h2 h3 (nested_all ks _ _ h4 z)
theorem nested_all {h : Heap} : ∀ (ks : List NK) (vs : List Value) (as : List Addr), ReadsAll h vs (NestedKey.datas ks) as → plainAll ks = true → NestedAll h ks vs
  | [], _, _, r, _ => by rw [NestedKey.datas] at r; cases r; exact .nil
  | k :: ks, _, _, r, z => by
    rw [NestedKey.datas] at r
    rw [plainAll, Bool.and_eq_true] at z
    cases r with
    | cons r1 r2 => exact .cons (nested_of k _ _ r1 z.1) (nested_all ks _ _ r2 z.2)
end
/-- values that are the addresses of rows in some order -/
theorem as_rows : ∀ (vs : List Value) (L : List Ent), vs.Perm (L.map fun e => Value.ref e.1) → ∃ L1 : List Ent, L1.Perm L ∧ vs = L1.map fun e => Value.ref e.1
  | [], L, p => by
    have e := p.length_eq
    rw [List.length_map] at e
    exact ⟨[], by rw [List.eq_nil_of_length_eq_zero e.symm], rfl⟩
  | v :: vs, L, p => by
    obtain ⟨q, hq, e⟩ := List.mem_map.mp (p.mem_iff.mp (.head _))
    obtain ⟨L2, L3, rfl⟩ := List.append_of_mem hq
    have p3 : (v :: vs).Perm (v :: (L2 ++ L3).map fun e => Value.ref e.1) := by
      have := p.trans ((List.perm_middle (l₁ := L2) (a := q) (l₂ := L3)).map fun e => Value.ref e.1)
      rwa [List.map_cons, e] at this
    obtain ⟨L1, a1, a2⟩ := as_rows vs _ p3.cons_inv
    exact ⟨q :: L1, (a1.cons q).trans List.perm_middle.symm, by rw [List.map_cons, e, a2]⟩
theorem each_refs {R : Value → Ent → Prop} : ∀ (M : List Ent), (∀ e ∈ M, R (.ref e.1) e) → EachIs R (M.map fun e => Value.ref e.1) M
  | [], _ => .nil
  | e :: M, h => .cons (h e (.head _)) (each_refs M fun u hu => h u (.tail _ hu))
theorem refs_each : ∀ {us : List Value} {M : List Ent}, EachIs (fun v (e : Ent) => v = Value.ref e.1) us M → us = M.map fun e => Value.ref e.1
  | _, _, .nil => rfl
  | _, _, .cons h t => by rw [List.map_cons, h, refs_each t]
theorem sort_set {a : Addr} {L : List Ent} {es : Array (Int × Value)} {ep : Nat} {t : SetTable} {Q : Value → Shared → Prop} (R : SetN w s.heap a L es ep t) (hh : A.handled = none) (hu : A.units + 100 < cLine)
    (rd : ∀ e ∈ L, ∃ as, Reads s.heap (.ref e.1) e.2.data as) (al : AllAlike (L.map dtN)) (nn : PyData.none ∉ L.map dtN) (dp : ∀ e ∈ L, (dtN e).depth ≤ 60) (few : L.length ≤ 1000)
    (hQ : ∀ s1 p (out : Array Value) (c : Nat) (L1 : List Ent), (∀ b o, s.heap.get? b = some o → s1.heap.get? b = some o) → s1.gens = s.gens → s1.os = s.os → s.heap.objs.size ≤ p →
      s1.heap.get? p = some (seqObj "list" out c) → L1.Perm L → out.toList = (L1.mergeSort (dataLe false dtN)).map (fun e => Value.ref e.1) → Q (.ref p) s1) :
    wpAny (model P w) A (call (.builtin "sorted") [.ref a]) Q E s := by
  obtain ⟨o, ho, hex, hd⟩ := R.obj
  have hsz := ents_len R.its
  refine Calls.call_function_entry kind_sorted plain_sorted entry_sorted (args_sorted1 _) ?_
  unfold Builtin.«sorted»
  refine wpAny_bind (m := checkCount "sorted" 1 1 _) (wpAny_pure ?_)
  refine wpAny_bind (collect_set (A := A.in1) hh ⟨o, ho, hex.1, hd⟩ R.fit (by unfold scanBound; omega) R.tab.up R.ld fun s1 vs k1 hz g1 o1 pm => ?_)
  have hes : es.toList.map (·.2) = L.map fun e => Value.ref e.1 := by
    rw [R.its, ents, List.map_map]
    rfl
  rw [hes] at pm
  obtain ⟨L1, pL, eL⟩ := as_rows vs L pm
  have hvl : vs.length ≤ sizeLine := by rw [pm.length_eq, List.length_map, sizeLine_eq]; omega
  refine wpAny_bind (wpAny_newList ?_ hvl)
  have hoL : (s1.heap.push (seqObj "list" vs.toArray 0)).get? s1.heap.objs.size = some (seqObj "list" vs.toArray 0) := Heap.get?_push_size _ rfl
  have kp : ∀ b u, s.heap.get? b = some u → (sortingHeap (s1.heap.push (seqObj "list" vs.toArray 0)) s1.heap.objs.size vs).get? b = some u := fun b u e => by
    have q := k1 b u e
    exact sortingHeap_old (Nat.ne_of_lt (Heap.lt_size q)) (Heap.get?_push_of_some _ q)
  have er : EachIs (fun v (e : Ent) => ∃ as, Reads (sortingHeap (s1.heap.push (seqObj "list" vs.toArray 0)) s1.heap.objs.size vs) v (dtN e) as) vs L1 := by
    have := each_refs (R := fun v (e : Ent) => ∃ as, Reads (sortingHeap (s1.heap.push (seqObj "list" vs.toArray 0)) s1.heap.objs.size vs) v (dtN e) as) L1 fun e he => by
      obtain ⟨as, r⟩ := rd e (pL.mem_iff.mp he)
      exact ⟨as, PyProof.Rows.Reads.keeps kp r⟩
    rwa [← eL] at this
  have er0 : EachIs (fun v (e : Ent) => v = Value.ref e.1) vs L1 := by
    have := each_refs (R := fun v (e : Ent) => v = Value.ref e.1) L1 fun _ _ => rfl
    rwa [← eL] at this
  have pm1 := pL.map dtN
  have al1 : AllAlike (L1.map dtN) := fun d hd d' hd' => al d (pm1.mem_iff.mp hd) d' (pm1.mem_iff.mp hd')
  refine wpAny_bind (wpAny_holding (wpAny_call_entry slot_list_sort ⟨_, hoL, rfl⟩ entry_list_sort (list_sort_vals (s := { s1 with heap := s1.heap.push (seqObj "list" vs.toArray 0) }) (κ := dataKind (sortingHeap (s1.heap.push (seqObj "list" vs.toArray 0)) s1.heap.objs.size vs) (L1.map dtN)) hoL
    (WdS.SortsAt.any (s := { s1 with heap := sortingHeap (s1.heap.push (seqObj "list" vs.toArray 0)) s1.heap.objs.size vs }) (each_map (R := fun v d => ∃ as, Reads (sortingHeap (s1.heap.push (seqObj "list" vs.toArray 0)) s1.heap.objs.size vs) v d as) dtN er) al1 (fun m => nn (pm1.mem_iff.mp m)) (fun d hd1 => ?_)) hvl ?_) (args_list_sort _)))
  · obtain ⟨e, he, rfl⟩ := List.mem_map.mp hd1
    have := dp e (pL.mem_iff.mp he)
    show A.units + 1 + 1 + (dtN e).depth < cLine
    omega
  · have out := sortVals_data (h' := sortingHeap (s1.heap.push (seqObj "list" vs.toArray 0)) s1.heap.objs.size vs) (R := fun v (e : Ent) => v = Value.ref e.1) false er0 er al1
    obtain ⟨c, hc⟩ := sortedHeap_at (vs := vs) (out := (sortVals (dataKind (sortingHeap (s1.heap.push (seqObj "list" vs.toArray 0)) s1.heap.objs.size vs) (L1.map dtN)) false vs vs).toArray) hoL
    refine ⟨_, rfl, wpAny_pure ⟨_, rfl, hQ _ s1.heap.objs.size _ c L1 (fun b u e => ?_) g1 o1 hz hc pL (refs_each out)⟩⟩
    have q := k1 b u e
    have hlt := Heap.lt_size q
    rw [sortedHeap_old (Nat.ne_of_lt hlt) (by rw [size_push']; exact Nat.lt_succ_of_lt hlt)]
    exact Heap.get?_push_of_some _ q
end
/-- the set at a, its keys told elsewhere -/
structure SetN0 (w : World) (h : Heap) (a : Addr) (L : List Ent) : Prop where
  ex : ∃ (es : Array (Int × Value)) (ep : Nat) (t : SetTable), (∃ o, h.get? a = some o ∧ o.ExactSet ∧ o.data = .set es ep t) ∧ es.toList = ents w L ∧ Tab t (hss w L) ∧ (L.map (·.2)).Nodup ∧ t.plain = true ∧ (w.params.followText "set-order" = true ∨ t.led = true) ∧ L.length * 5 < t.mask * 3
def SetNO (w : World) (a : Addr) (L : List Ent) : HO := .ext fun h => SetN0 w h a L
theorem setNO_ok {P : Program} {w : World} {H : Hp} {h : Heap} {a : Addr} {L : List Ent} (R : SetN0 w h a L) : ObjOk P w H h a (SetNO w a L) := by
  have ⟨es, ep, t, ⟨o, ho, r⟩, q⟩ := R.ex
  exact ⟨R, ⟨o, ho⟩, fun h1 h2 p k => let ⟨es1, ep1, t1, ⟨o1, ho1, r1⟩, q1⟩ := SetN0.ex p; ⟨es1, ep1, t1, ⟨o1, k o1 ho1, r1⟩, q1⟩⟩
/-- a key as it stands in the heap -/
structure KeyAt (K : PySem.W.Frag) (H : Hp) (e : Ent) : Prop where
  dp : Dp K H (.ref e.1) e.2.data
  pl : plainK e.2 = true
  deep : e.2.depth ≤ 8
section
variable {X : Cx}
theorem KeyAt.reads {pins : List (Addr × Obj)} {σ : L2.St} {H : Hp} {s : Shared} {e : Ent} (I : Inv X pins σ H s) (k : KeyAt X.K H e) : ∃ as, Reads s.heap (.ref e.1) e.2.data as := Dp.reads I _ _ _ k.dp rfl
theorem KeyAt.isN {pins : List (Addr × Obj)} {σ : L2.St} {H : Hp} {s : Shared} {e : Ent} (I : Inv X pins σ H s) (k : KeyAt X.K H e) : IsN s.heap e.2 e.1 :=
  let ⟨_, r⟩ := k.reads I; ⟨nested_of _ _ _ r k.pl, k.deep, k.pl⟩
theorem ent_vals : ∀ {ks : List Ent} {us : List Value}, Vals (ks.map fun e => V.ref e.1) us → us = ks.map fun e => Value.ref e.1
  | [], _, .nil => rfl
  | _ :: _, _, .cons r t => by cases r; rw [ent_vals t]; rfl
theorem vals_ent : ∀ ks : List Ent, Vals (ks.map fun e => V.ref e.1) (ks.map fun e => Value.ref e.1)
  | [] => .nil
  | _ :: ks => .cons rfl (vals_ent ks)
def rSetN (K : PySem.W.Frag) (w : World) : List V → Hp → VK → Prop := fun xs H Q => ∃ (l : Addr) (ks : List Ent), xs = [V.ref l] ∧ SqL K H l (ks.map fun e => V.ref e.1) ∧ (∀ e ∈ ks, KeyAt K H e) ∧ (∀ l : List NK, l.Nodup → (∀ k ∈ l, k ∈ ks.map (·.2)) → l.length ≤ 306) ∧
  ∀ a L, H a = none → (∀ e ∈ L, e ∈ ks) → (∀ e ∈ ks, e.2 ∈ L.map (·.2)) → Q (.ref a) (upd H a (SetNO w a L))
theorem cr_setN (hc : X.calm = true) {k : Nat} (hr : Room k X.A) : CallR X (.type "set") (rSetN X.K X.w) := by
  intro pins s σ H xs us Q I r h
  obtain ⟨l, ks, rfl, hl, hk, hf, q⟩ := h
  have hu := hr.un
  rw [Vals.ref1 r]
  obtain ⟨its, rv, pl, hz⟩ := I.list hl
  refine make_set ks (I.ok.hd hc) pl.isList (by simpa using ent_vals rv) (fun e he => (hk e he).isN I) hf (by omega) fun h1 tk L es ep t R g kp => ?_
  have R0 : SetN0 X.w h1 s.heap.objs.size L := ⟨es, ep, t, R.obj, R.its, R.tab, R.nodup, R.pl, R.ld, R.space⟩
  exact ⟨.ref s.heap.objs.size, upd H s.heap.objs.size (SetNO X.w s.heap.objs.size L), I.laid (t' := tk) kp (Nat.le_refl _) (setNO_ok R0), rfl, q _ L (I.hok.fresh (Nat.le_refl _)) (fun e he => List.mem_of_mem_take (g.sub e he)) fun e he => g.all e (by rw [List.take_length]; exact he)⟩
def rSortN (K : PySem.W.Frag) (w : World) : List V → Hp → VK → Prop := fun vs H Q => ∃ (a : Addr) (L : List Ent), vs = [V.ref a] ∧ H a = some (SetNO w a L) ∧ (∀ e ∈ L, KeyAt K H e) ∧ AllAlike (L.map dtN) ∧ PyData.none ∉ L.map dtN ∧ (∀ e ∈ L, (dtN e).depth ≤ 60) ∧ ((L.map (·.2)).Nodup → L.length ≤ 1000) ∧
  ∀ (L1 : List Ent) (p : Addr), L1.Perm L → (L1.map (·.2)).Nodup → H p = none → Q (.ref p) (upd H p (.lst ((L1.mergeSort (dataLe false dtN)).map fun e => V.ref e.1)))
theorem cr_sortN {k : Nat} (hr : Room k X.A) (hc : X.calm = true) : CallR X (.builtin "sorted") (rSortN X.K X.w) := by
  intro pins s σ H vs us Q I r h
  obtain ⟨a, L, rfl, ha, hk, al, nn, dp, few, q⟩ := h
  have hu := hr.un
  obtain ⟨es, ep, t, h1, h2, h3, h4, h5, h6, h7⟩ := (show SetN0 X.w s.heap a L from (I.hok a _ ha).1).ex
  have R : SetN X.w s.heap a L es ep t := { obj := h1, its := h2, tab := h3, nodup := h4, keys := fun e he => (hk e he).isN I, pl := h5, ld := h6, space := h7 }
  rw [Vals.ref1 r]
  refine sort_set R (I.ok.hd hc) (by omega) (fun e he => (hk e he).reads I) al nn dp (few h4) fun s1 p out c L1 kp g o hp hg pL hout => ?_
  have pm : (L1.mergeSort (dataLe false dtN)).Perm L := (List.mergeSort_perm _ _).trans pL
  have hlen : ((L1.mergeSort (dataLe false dtN)).map fun e => V.ref e.1).length ≤ sizeLine := by rw [List.length_map, pm.length_eq, sizeLine_eq]; have := few h4; omega
  have hn : H p = none := I.hok.fresh hp
  have J : Inv X pins σ (upd H p (.lst ((L1.mergeSort (dataLe false dtN)).map fun e => V.ref e.1))) { s with heap := s1.heap, gens := s1.gens, drawn := s1.drawn, toks := s1.toks } :=
    I.call (ch := []) (Un.laid kp hp hn) (I.hok.laid kp hp ⟨hlen, out.toList, c, by rw [hout]; exact vals_ent _, hg⟩) (by rw [g]; exact I.bare) (fun _ z => nomatch z)
  have e : s1 = { s with heap := s1.heap, gens := s1.gens, drawn := s1.drawn, toks := s1.toks } := by
    cases s1
    cases s
    cases o
    rfl
  rw [e]
  exact ⟨.ref p, _, J, rfl, q L1 p pL ((pL.map (·.2)).nodup_iff.mpr h4) hn⟩
end
end Bs

set_option Elab.async false
set_option linter.all false
set_option maxRecDepth 100000
set_option maxHeartbeats 4000000
set_option autoImplicit false

namespace Wd
open PySem PyProof.Rows L2
open PySem.W (dataLt dataLe)
/-! ### rows of ints in order -/
abbrev Row := List Int
def kT (k : Row) : D := .tuple (k.map PyData.int)
def leK (a b : Row) : Bool := decide (a ≤ b)
theorem dataLt_kT (a b : Row) : dataLt (kT a) (kT b) = decide (a < b) := by
  unfold kT
  rw [PySem.W.dataLt_tuple]
  exact PySem.W.dataLt_ints a b
theorem leK_eq (a b : Row) : (!dataLt (kT b) (kT a)) = leK a b := by
  rw [dataLt_kT]
  unfold leK
  by_cases h : b < a
  · rw [decide_eq_true h, decide_eq_false (fun z => List.not_lt.mpr z h)]; rfl
  · rw [decide_eq_false h, decide_eq_true (List.not_lt.mp h)]; rfl
theorem leK_trans (a b c : Row) (h : leK a b = true) (h' : leK b c = true) : leK a c = true := decide_eq_true (List.le_trans (of_decide_eq_true h) (of_decide_eq_true h'))
theorem leK_total (a b : Row) : (leK a b || leK b a) = true := by
  rw [Bool.or_eq_true]
  rcases List.le_total a b with h | h
  · exact .inl (decide_eq_true h)
  · exact .inr (decide_eq_true h)
theorem leK_anti {a b : Row} (h : leK a b = true) (h' : leK b a = true) : a = b := List.le_antisymm (of_decide_eq_true h) (of_decide_eq_true h')
/-- sorted rows that are the same up to order are the same -/
theorem rows_same {l m : List Row} (p : l.Perm m) (hl : l.Pairwise fun a b => leK a b = true) (hm : m.Pairwise fun a b => leK a b = true) : l = m :=
  List.Perm.eq_of_pairwise (le := fun a b => leK a b = true) (fun a b _ _ h h' => leK_anti h h') hl hm p
theorem sortK_pw (l : List Row) : (l.mergeSort leK).Pairwise fun a b => leK a b = true := List.pairwise_mergeSort leK_trans leK_total l
def dedup : List Row → List Row
  | [] => []
  | a :: l => if l.contains a = true then dedup l else a :: dedup l
theorem mem_dedup {a : Row} : ∀ {l : List Row}, a ∈ dedup l ↔ a ∈ l
  | [] => Iff.rfl
  | b :: l => by
    unfold dedup
    by_cases h : l.contains b = true
    · rw [if_pos h, mem_dedup (l := l)]
      have hb : b ∈ l := List.contains_iff_mem.mp h
      constructor
      · exact List.mem_cons_of_mem _
      · intro z
        rcases List.mem_cons.mp z with z | z
        · rw [z]; exact hb
        · exact z
    · rw [if_neg h, List.mem_cons, List.mem_cons, mem_dedup (l := l)]
theorem nodup_dedup : ∀ l : List Row, (dedup l).Nodup
  | [] => List.nodup_nil
  | b :: l => by
    unfold dedup
    by_cases h : l.contains b = true
    · rw [if_pos h]; exact nodup_dedup l
    · rw [if_neg h]
      exact List.nodup_cons.mpr ⟨fun z => h (List.contains_iff_mem.mpr (mem_dedup.mp z)), nodup_dedup l⟩
/-- the rows of a list, each once, in order -/
def sortRows (l : List Row) : List Row := (dedup l).mergeSort leK
theorem sortRows_of {l m : List Row} (hn : m.Nodup) (hm : ∀ a, a ∈ m ↔ a ∈ l) : m.mergeSort leK = sortRows l := by
  refine rows_same ?_ (sortK_pw _) (sortK_pw _)
  refine ((List.mergeSort_perm _ _).trans ?_).trans (List.mergeSort_perm _ _).symm
  exact (List.perm_ext_iff_of_nodup hn (nodup_dedup l)).mpr fun a => (hm a).trans mem_dedup.symm
def rowOf : D → Option Row
  | .tuple ds => intsOf ds
  | _ => none
def rowsOf : List D → Option (List Row)
  | [] => some []
  | d :: ds => match rowOf d with
    | some k => match rowsOf ds with
      | some ks => some (k :: ks)
      | none => none
    | none => none
theorem row_lt_or {a b : Row} (h : a ≤ b) : a < b ∨ a = b := by
  by_cases q : a < b
  · exact .inl q
  · exact .inr (List.le_antisymm h (List.not_lt.mp q))
/-! pairs of rows -/
abbrev Row2 := Row × Row
def kT2 (p : Row2) : D := .tuple [kT p.1, kT p.2]
def leK2 (a b : Row2) : Bool := decide (a.1 < b.1 ∨ (a.1 = b.1 ∧ a.2 ≤ b.2))
theorem alike_row (a b : Row) : PySem.W.alike (kT a) (kT b) = true := by
  have f : ∀ xs ys : List Int, PySem.W.alikeAll (xs.map PyData.int) (ys.map PyData.int) = true := by
    intro xs
    induction xs with
    | nil => intro ys; simp [PySem.W.alikeAll]
    | cons x xs ih =>
      intro ys
      cases ys with
      | nil => simp [PySem.W.alikeAll]
      | cons y ys => rw [List.map_cons, List.map_cons, PySem.W.alikeAll, ih ys]; simp [PySem.W.alike]
  unfold kT
  rw [PySem.W.alike]
  exact f a b
theorem eqv_row (a b : Row) : PyData.eqv (kT a) (kT b) = decide (a = b) := by
  have f : ∀ xs ys : List Int, PyData.eqvAll (xs.map PyData.int) (ys.map PyData.int) = decide (xs = ys) := by
    intro xs
    induction xs with
    | nil => intro ys; cases ys <;> simp [PyData.eqvAll]
    | cons x xs ih =>
      intro ys
      cases ys with
      | nil => simp [PyData.eqvAll]
      | cons y ys =>
        rw [List.map_cons, List.map_cons, PyData.eqvAll, ih ys]
        by_cases e : x = y <;> simp [PyData.eqv, e]
  unfold kT
  rw [PyData.eqv]
  exact f a b
theorem leK2_eq (a b : Row2) : (!dataLt (kT2 b) (kT2 a)) = leK2 a b := by
  unfold kT2 leK2
  rw [PySem.W.dataLt_pair (alike_row _ _) (alike_row _ _), eqv_row, eqv_row, dataLt_kT, dataLt_kT]
  by_cases h : b.1 = a.1
  · rw [if_pos (decide_eq_true h)]
    have n1 : ¬ a.1 < b.1 := by rw [h]; exact List.lt_irrefl _
    by_cases g : b.2 = a.2
    · rw [if_pos (decide_eq_true g)]
      exact (decide_eq_true (.inr ⟨h.symm, by rw [g]; exact List.le_refl _⟩)).symm
    · rw [if_neg (by rw [decide_eq_false g]; decide)]
      by_cases k : b.2 < a.2
      · rw [decide_eq_true k, decide_eq_false fun z => ?_]
        · rfl
        · rcases z with z | ⟨_, z⟩
          · exact n1 z
          · exact List.not_lt.mpr z k
      · rw [decide_eq_false k, decide_eq_true (.inr ⟨h.symm, List.not_lt.mp k⟩)]
        try rfl
  · rw [if_neg (by rw [decide_eq_false h]; decide)]
    by_cases k : b.1 < a.1
    · rw [decide_eq_true k, decide_eq_false fun z => ?_]
      · rfl
      · rcases z with z | ⟨z, _⟩
        · exact List.lt_asymm z k
        · exact h z.symm
    · have q : a.1 < b.1 := by
        rcases row_lt_or (List.not_lt.mp k) with q | q
        · exact q
        · exact absurd q.symm h
      rw [decide_eq_false k, decide_eq_true (.inl q)]
      try rfl
theorem leK2_trans (a b c : Row2) (h : leK2 a b = true) (h' : leK2 b c = true) : leK2 a c = true := by
  have h := of_decide_eq_true h
  have h' := of_decide_eq_true h'
  refine decide_eq_true ?_
  rcases h with h | ⟨h, g⟩
  · rcases h' with h' | ⟨h', _⟩
    · exact .inl (List.lt_trans h h')
    · exact .inl (by rw [← h']; exact h)
  · rcases h' with h' | ⟨h', g'⟩
    · exact .inl (by rw [h]; exact h')
    · exact .inr ⟨h.trans h', List.le_trans g g'⟩
theorem leK2_total (a b : Row2) : (leK2 a b || leK2 b a) = true := by
  rw [Bool.or_eq_true]
  by_cases h : a.1 = b.1
  · rcases List.le_total a.2 b.2 with g | g
    · exact .inl (decide_eq_true (.inr ⟨h, g⟩))
    · exact .inr (decide_eq_true (.inr ⟨h.symm, g⟩))
  · rcases List.le_total a.1 b.1 with g | g
    · rcases row_lt_or g with q | q
      · exact .inl (decide_eq_true (.inl q))
      · exact absurd q h
    · rcases row_lt_or g with q | q
      · exact .inr (decide_eq_true (.inl q))
      · exact absurd q.symm h
theorem leK2_anti {a b : Row2} (h : leK2 a b = true) (h' : leK2 b a = true) : a = b := by
  have h := of_decide_eq_true h
  have h' := of_decide_eq_true h'
  rcases h with h | ⟨h, g⟩
  · rcases h' with h' | ⟨h', _⟩
    · exact absurd h' (List.lt_asymm h)
    · rw [h'] at h; exact absurd h (List.lt_irrefl _)
  · rcases h' with h' | ⟨_, g'⟩
    · rw [h] at h'; exact absurd h' (List.lt_irrefl _)
    · exact Prod.ext h (List.le_antisymm g g')
theorem nodup_le {α : Type} [DecidableEq α] : ∀ (l d : List α), l.Nodup → (∀ x ∈ l, x ∈ d) → l.length ≤ d.length
  | [], _, _, _ => Nat.zero_le _
  | x :: l, d, hn, hs => by
    obtain ⟨h1, h2⟩ := List.nodup_cons.mp hn
    have hx := hs x (.head _)
    have := nodup_le l (d.erase x) h2 fun y hy => (List.mem_erase_of_ne fun e => h1 (by rw [← e]; exact hy)).mpr (hs y (.tail _ hy))
    rw [List.length_erase_of_mem hx] at this
    have := List.length_pos_of_mem hx
    rw [List.length_cons]
    omega
/-! keys that are rows, or pairs of rows -/
structure Enc (κ : Type) where
  nk : κ → NestedKey
  le : κ → κ → Bool
  tup : ∀ k, ∃ ks, nk k = .tup ks
  inj : ∀ a b, nk a = nk b → a = b
  deep : ∀ k, (nk k).depth ≤ 8
  pl : ∀ k, Bs.plainK (nk k) = true
  dd : ∀ k, PyData.depth (nk k).data ≤ 60
  al : ∀ a b, PySem.W.alike (nk a).data (nk b).data = true
  lt : ∀ a b, (!dataLt (nk b).data (nk a).data) = le a b
  trans : ∀ a b c, le a b = true → le b c = true → le a c = true
  total : ∀ a b, (le a b || le b a) = true
  anti : ∀ a b, le a b = true → le b a = true → a = b
def nkR (k : Row) : NestedKey := .tup (k.map .num)
def nkP (p : Row2) : NestedKey := .tup [nkR p.1, nkR p.2]
theorem nkR_facts : ∀ k : Row, NestedKey.datas (k.map .num) = k.map PyData.int ∧ NestedKey.depthAll (k.map .num) = 0 ∧ Bs.plainAll (k.map .num) = true ∧ PyData.depthAll (k.map PyData.int) ≤ 1
  | [] => ⟨rfl, rfl, rfl, by simp [PyData.depthAll]⟩
  | i :: k => by
    obtain ⟨h1, h2, h3, h4⟩ := nkR_facts k
    refine ⟨?_, ?_, ?_, ?_⟩
    · rw [List.map_cons, NestedKey.datas, h1]; rfl
    · rw [List.map_cons, NestedKey.depthAll, h2]; rfl
    · rw [List.map_cons, Bs.plainAll, h3]; rfl
    · rw [List.map_cons, PyData.depthAll]
      simp only [PyData.depth]
      omega
theorem nkR_data (k : Row) : (nkR k).data = kT k := by unfold nkR kT; rw [NestedKey.data, (nkR_facts k).1]
theorem nkP_data (p : Row2) : (nkP p).data = kT2 p := by unfold nkP kT2; simp only [NestedKey.data, NestedKey.datas, nkR_data]
theorem nkR_depth (k : Row) : (nkR k).depth = 1 := by unfold nkR; rw [NestedKey.depth, (nkR_facts k).2.1]
theorem nkR_plain (k : Row) : Bs.plainK (nkR k) = true := by unfold nkR; rw [Bs.plainK]; exact (nkR_facts k).2.2.1
theorem kT_depth (k : Row) : PyData.depth (kT k) ≤ 2 := by
  unfold kT
  simp only [PyData.depth]
  have := (nkR_facts k).2.2.2
  omega
theorem nkR_inj {a b : Row} (h : nkR a = nkR b) : a = b := by
  have e := congrArg NestedKey.data h
  rw [nkR_data, nkR_data] at e
  unfold kT at e
  injection e with e
  exact (List.map_inj_right fun x y z => by injection z).mp e
def encR : Enc Row where
  nk := nkR
  le := leK
  tup := fun k => ⟨_, rfl⟩
  inj := fun a b h => nkR_inj h
  deep := fun k => by rw [nkR_depth]; decide
  pl := nkR_plain
  dd := fun k => by rw [nkR_data]; have := kT_depth k; omega
  al := fun a b => by rw [nkR_data, nkR_data]; exact alike_row a b
  lt := fun a b => by rw [nkR_data, nkR_data]; exact leK_eq a b
  trans := leK_trans
  total := leK_total
  anti := fun a b => leK_anti
def encP : Enc Row2 where
  nk := nkP
  le := leK2
  tup := fun k => ⟨_, rfl⟩
  inj := fun a b h => by
    unfold nkP at h
    injection h with h
    injection h with h1 h2
    injection h2 with h2
    exact Prod.ext (nkR_inj h1) (nkR_inj h2)
  deep := fun k => by unfold nkP; simp only [NestedKey.depth, NestedKey.depthAll, nkR_depth]; decide
  pl := fun k => by unfold nkP; simp only [Bs.plainK, Bs.plainAll, nkR_plain]; rfl
  dd := fun k => by
    rw [nkP_data]
    unfold kT2
    simp only [PyData.depth, PyData.depthAll]
    have h1 := kT_depth k.1
    have h2 := kT_depth k.2
    omega
  al := fun a b => by
    rw [nkP_data, nkP_data]
    unfold kT2
    simp only [PySem.W.alike, PySem.W.alikeAll, alike_row, Bool.and_self]
    try rfl
  lt := fun a b => by rw [nkP_data, nkP_data]; exact leK2_eq a b
  trans := leK2_trans
  total := leK2_total
  anti := fun a b => leK2_anti
/-- the pairs of rows of a list, each once -/
def dedup2 : List Row2 → List Row2
  | [] => []
  | a :: l => if l.contains a = true then dedup2 l else a :: dedup2 l
theorem mem_dedup2 {a : Row2} : ∀ {l : List Row2}, a ∈ dedup2 l ↔ a ∈ l
  | [] => Iff.rfl
  | b :: l => by
    unfold dedup2
    have ih := mem_dedup2 (a := a) (l := l)
    by_cases h : l.contains b = true
    · rw [if_pos h, ih, List.mem_cons]
      have hb : b ∈ l := List.contains_iff_mem.mp h
      exact ⟨.inr, fun z => z.elim (fun e => e ▸ hb) id⟩
    · rw [if_neg h, List.mem_cons, List.mem_cons, ih]
theorem nodup_dedup2 : ∀ l : List Row2, (dedup2 l).Nodup
  | [] => List.nodup_nil
  | b :: l => by
    unfold dedup2
    by_cases h : l.contains b = true
    · rw [if_pos h]; exact nodup_dedup2 l
    · rw [if_neg h]
      exact List.nodup_cons.mpr ⟨fun z => h (List.contains_iff_mem.mpr (mem_dedup2.mp z)), nodup_dedup2 l⟩
def sortRows2 (l : List Row2) : List Row2 := (dedup2 l).mergeSort leK2
def row2Of : D → Option Row2
  | .tuple [a, b] => match rowOf a with
    | some x => match rowOf b with
      | some y => some (x, y)
      | none => none
    | none => none
  | _ => none
def rows2Of : List D → Option (List Row2)
  | [] => some []
  | d :: ds => match row2Of d with
    | some k => match rows2Of ds with
      | some ks => some (k :: ks)
      | none => none
    | none => none
/-- sorted(set(xs)): at most 306 of them are apart -/
def dSortSet : D → Option D
  | .list ds => match rowsOf ds with
    | some ks => if (dedup ks).length ≤ 306 then some (.list ((sortRows ks).map kT)) else none
    | none => match rows2Of ds with
      | some ks => if (dedup2 ks).length ≤ 306 then some (.list ((sortRows2 ks).map kT2)) else none
      | none => none
  | _ => none
def fSortSet (F : F1) : F1 := fun ρ => match F ρ with
  | some d => dSortSet d
  | none => none
theorem intsOf_eq : ∀ {ds : List D} {k : Row}, intsOf ds = some k → ds = k.map PyData.int := by
  intro ds
  induction ds with
  | nil => intro k h; cases h; rfl
  | cons d ds ih =>
    intro k h
    cases d with
    | int i =>
      unfold intsOf at h
      split at h
      · rename_i ks e
        cases h
        rw [ih e]
        rfl
      · cases h
    | _ => cases h
theorem rowOf_eq {d : D} {k : Row} (h : rowOf d = some k) : d = kT k := by
  cases d with
  | tuple ds => exact congrArg PyData.tuple (intsOf_eq h)
  | _ => cases h
theorem rowsOf_eq : ∀ {ds : List D} {ks : List Row}, rowsOf ds = some ks → ds = ks.map kT
  | [], ks, h => by cases h; rfl
  | d :: ds, ks, h => by
    unfold rowsOf at h
    split at h
    · rename_i k e
      split at h
      · rename_i ks1 e1
        cases h
        rw [rowOf_eq e, rowsOf_eq e1]
        rfl
      · cases h
    · cases h
theorem row2Of_eq {d : D} {k : Row2} (h : row2Of d = some k) : d = kT2 k := by
  unfold row2Of at h
  split at h
  · split at h
    · rename_i x e
      split at h
      · rename_i y e1
        cases h
        rw [rowOf_eq e, rowOf_eq e1]
        rfl
      · cases h
    · cases h
  · cases h
theorem rows2Of_eq : ∀ {ds : List D} {ks : List Row2}, rows2Of ds = some ks → ds = ks.map kT2
  | [], ks, h => by cases h; rfl
  | d :: ds, ks, h => by
    unfold rows2Of at h
    split at h
    · rename_i k e
      split at h
      · rename_i ks1 e1
        cases h
        rw [row2Of_eq e, rows2Of_eq e1]
        rfl
      · cases h
    · cases h
section
variable {κ : Type} (E : Enc κ)
theorem Enc.same {l m : List κ} (p : l.Perm m) (hl : l.Pairwise fun a b => E.le a b = true) (hm : m.Pairwise fun a b => E.le a b = true) : l = m :=
  List.Perm.eq_of_pairwise (le := fun a b => E.le a b = true) (fun a b _ _ h h' => E.anti a b h h') hl hm p
theorem Enc.sorts {l m d : List κ} (hn : m.Nodup) (hm : ∀ a, a ∈ m ↔ a ∈ l) (hd : d.Nodup) (hd2 : ∀ a, a ∈ d ↔ a ∈ l) : m.mergeSort E.le = d.mergeSort E.le := by
  have pw : ∀ l : List κ, (l.mergeSort E.le).Pairwise fun a b => E.le a b = true := fun l => List.pairwise_mergeSort E.trans E.total l
  refine E.same ?_ (pw _) (pw _)
  refine ((List.mergeSort_perm _ _).trans ?_).trans (List.mergeSort_perm _ _).symm
  exact (List.perm_ext_iff_of_nodup hn hd).mpr fun a => (hm a).trans (hd2 a).symm
theorem Enc.addr {H : Hp} {v : V} {k : κ} (h : Da H v (E.nk k).data) : ∃ a, v = .ref a := by
  obtain ⟨ks, e⟩ := E.tup k
  rw [e, NestedKey.data] at h
  cases h with
  | tup ha hs => exact ⟨_, rfl⟩
theorem Enc.entries {κ : Type} {E : Enc κ} {H : Hp} : ∀ {vs : List V} {ks : List κ}, DaAll H vs (ks.map fun k => (E.nk k).data) → ∃ L : List (Addr × κ), vs = L.map (fun p => V.ref p.1) ∧ ks = L.map (·.2) ∧ ∀ p ∈ L, Da H (.ref p.1) (E.nk p.2).data
  | _, [], .nil => ⟨[], rfl, rfl, fun p h => by cases h⟩
  | _, k :: ks, .cons h t => by
    obtain ⟨a, rfl⟩ := Enc.addr E h
    obtain ⟨L, rfl, rfl, hL⟩ := Enc.entries (E := E) t
    refine ⟨(a, k) :: L, rfl, rfl, fun p hp => ?_⟩
    rcases List.mem_cons.mp hp with z | z
    · subst z; exact h
    · exact hL p z
theorem daAll_map {α : Type} {H : Hp} {f : α → V} {g : α → D} : ∀ {l : List α}, (∀ a ∈ l, Da H (f a) (g a)) → DaAll H (l.map f) (l.map g)
  | [], _ => .nil
  | a :: l, h => .cons (h a (.head _)) (daAll_map fun b hb => h b (.tail _ hb))
/-- members of a mapped list come from members -/
theorem from_map {α β : Type} {f : α → β} {L : List α} : ∀ (M : List β), (∀ b ∈ M, b ∈ L.map f) → ∃ M' : List α, M = M'.map f ∧ ∀ a ∈ M', a ∈ L
  | [], _ => ⟨[], rfl, fun a h => by cases h⟩
  | b :: M, h => by
    obtain ⟨a, ha, e⟩ := List.mem_map.mp (h b (.head _))
    obtain ⟨M', rfl, h2⟩ := from_map M fun c hc => h c (.tail _ hc)
    exact ⟨a :: M', by rw [List.map_cons, e], fun c hc => by rcases List.mem_cons.mp hc with z | z; exact z ▸ ha; exact h2 c z⟩
theorem Enc.go {K : PySem.W.Frag} {w : World} {H1 : Hp} {S : Addr → Prop} (al : Alive S H1) {a : Addr} {vs : List V} {ks d : List κ} (ha : cut H1 S a = some (.lst vs)) (hs : DaAll (cut H1 S) vs (ks.map fun k => (E.nk k).data))
    (hd : d.Nodup) (hd2 : ∀ x, x ∈ d ↔ x ∈ ks) (few : d.length ≤ 306) {Q : VK} (k : ∀ v H2, Ex H1 H2 → Da (cut H2 S) v (.list ((d.mergeSort E.le).map fun k => (E.nk k).data)) → Q v H2) :
    Bs.rSetN K w [V.ref a] H1 (fun x H' => Bs.rSortN K w [x] H' Q) := by
  obtain ⟨L, rfl, rfl, hL⟩ := Enc.entries hs
  have ha' := (cut_some ha).2
  let f : Addr × κ → Bs.Ent := fun p => (p.1, E.nk p.2)
  have mm : ∀ {α : Type} (g : Bs.Ent → α) (M : List (Addr × κ)), (M.map f).map g = M.map fun p => g (f p) := fun g M => List.map_map
  have key : ∀ {H' : Hp}, Ex H1 H' → ∀ e ∈ L.map f, Bs.KeyAt K H' e := fun {H'} x e he => by
    obtain ⟨p, hp, rfl⟩ := List.mem_map.mp he
    exact ⟨Da.dp K _ _ (Da.mono x _ _ (Da.mono cut_ex _ _ (hL p hp))), E.pl _, E.deep _⟩
  have few1 : ∀ l : List NestedKey, l.Nodup → (∀ x ∈ l, x ∈ (L.map f).map (·.2)) → l.length ≤ 306 := fun l hn hl => by
    have hl' : ∀ x ∈ l, x ∈ d.map E.nk := fun x hx => by
      have := hl x hx
      rw [mm] at this
      obtain ⟨p, hp, rfl⟩ := List.mem_map.mp this
      exact List.mem_map.mpr ⟨p.2, (hd2 _).mpr (List.mem_map.mpr ⟨p, hp, rfl⟩), rfl⟩
    have := nodup_le l _ hn hl'
    rw [List.length_map] at this
    omega
  refine ⟨a, L.map f, rfl, SqL.of (by rw [mm]; exact ha'), key (fun _ _ h => h), few1, fun c M hc hM1 hM2 => ?_⟩
  have x2 : Ex H1 (upd H1 c (Bs.SetNO w c M)) := Evl.Ex.new hc
  obtain ⟨M', rfl, hM'⟩ := from_map M hM1
  have alM : ∀ (N : List Bs.Ent), (∀ e ∈ N, e ∈ L.map f) → PySem.W.AllAlike (N.map Bs.dtN) := fun N hN x hx y hy => by
    obtain ⟨e, he, rfl⟩ := List.mem_map.mp hx
    obtain ⟨e', he', rfl⟩ := List.mem_map.mp hy
    obtain ⟨p, _, rfl⟩ := List.mem_map.mp (hN e he)
    obtain ⟨p', _, rfl⟩ := List.mem_map.mp (hN e' he')
    exact E.al _ _
  refine ⟨c, M'.map f, rfl, upd_same, fun e he => key x2 e (hM1 e he), alM _ hM1, fun z => ?_, fun e he => ?_, fun hn => ?_, fun N r pm hnd hr => ?_⟩
  · obtain ⟨e, he, z⟩ := List.mem_map.mp z
    obtain ⟨p, _, rfl⟩ := List.mem_map.mp he
    obtain ⟨ks, e⟩ := E.tup p.2
    have z : (E.nk p.2).data = .none := z
    rw [e, NestedKey.data] at z
    cases z
  · obtain ⟨p, _, rfl⟩ := List.mem_map.mp he
    exact E.dd _
  · have := few1 _ hn fun x hx => by
      obtain ⟨e, he, rfl⟩ := List.mem_map.mp hx
      exact List.mem_map.mpr ⟨e, hM1 e he, rfl⟩
    rw [List.length_map] at this
    omega
  · obtain ⟨N', rfl, hN'⟩ := from_map N fun e he => pm.mem_iff.mp he
    have ord : (N'.map f).mergeSort (PySem.W.dataLe false Bs.dtN) = (N'.mergeSort fun p q => E.le p.2 q.2).map f :=
      (List.map_mergeSort (f := f) (r := fun p q : Addr × κ => E.le p.2 q.2) (s := PySem.W.dataLe false Bs.dtN) (l := N') fun p _ q _ => (E.lt p.2 q.2).symm).symm
    have snd : (N'.mergeSort fun p q => E.le p.2 q.2).map (·.2) = (N'.map (·.2)).mergeSort E.le :=
      List.map_mergeSort (f := fun p : Addr × κ => p.2) (r := fun p q : Addr × κ => E.le p.2 q.2) (s := E.le) (l := N') fun _ _ _ _ => rfl
    have nd : (N'.map (·.2)).Nodup := by
      rw [mm] at hnd
      have e : N'.map (fun p => (f p).2) = (N'.map (·.2)).map E.nk := by rw [List.map_map]; rfl
      rw [e] at hnd
      exact List.Pairwise.of_map E.nk (fun _ _ h z => h (congrArg E.nk z)) hnd
    have mem : ∀ x, x ∈ N'.map (·.2) ↔ x ∈ L.map (·.2) := fun x => by
      constructor
      · intro h
        obtain ⟨p, hp, rfl⟩ := List.mem_map.mp h
        exact List.mem_map.mpr ⟨p, hM' p (hN' p hp), rfl⟩
      · intro h
        obtain ⟨p, hp, rfl⟩ := List.mem_map.mp h
        have h1 := hM2 (f p) (List.mem_map.mpr ⟨p, hp, rfl⟩)
        have h2 := (pm.map (·.2)).mem_iff.mpr h1
        rw [mm] at h2
        obtain ⟨q, hq, e⟩ := List.mem_map.mp h2
        exact List.mem_map.mpr ⟨q, hq, E.inj _ _ e⟩
    have res := E.sorts nd mem hd hd2
    have x3 : Ex (upd H1 c (Bs.SetNO w c (M'.map f))) (upd (upd H1 c (Bs.SetNO w c (M'.map f))) r (.lst (((N'.map f).mergeSort (PySem.W.dataLe false Bs.dtN)).map fun e => V.ref e.1))) := Evl.Ex.new hr
    have nr : ¬ S r := al.there (Evl.fresh_back x2 hr)
    have o : DaAll (cut H1 S) (((N'.map f).mergeSort (PySem.W.dataLe false Bs.dtN)).map fun e => V.ref e.1) ((d.mergeSort E.le).map fun k => (E.nk k).data) := by
      rw [ord, ← res, ← snd, mm, List.map_map]
      exact daAll_map fun p hp => hL p (hM' p (hN' p (List.mem_mergeSort.mp hp)))
    exact k _ _ (x2.trans x3) (.lst (cut_of nr upd_same) (DaAll.mono (cut_mono (x2.trans x3)) _ _ o))
end
theorem map_kT (l : List Row) : (l.map fun k => (encR.nk k).data) = l.map kT := List.map_congr_left fun k _ => nkR_data k
theorem map_kT2 (l : List Row2) : (l.map fun k => (encP.nk k).data) = l.map kT2 := List.map_congr_left fun k _ => nkP_data k
section
variable {X : Cx}
/-- sorted(set(e)) -/
theorem ce_sortSet {k : Nat} {e : Expr} {te : TE} {F : F1} {p p2 q pos : Pos} (hr : Room k X.A) (hc : X.calm = true) (hg : Gl X "sorted") (hm : X.mg "sorted" = none) (hg2 : Gl X "set") (hm2 : X.mg "set" = none) (he : Ce X e te F)
    (s1 : starEach [e] X.env = (false, eval e X.env) :: starEach [] X.env := by rfl) (s2 : starEach [.Call (.Name "set" p2) [e] [] q] X.env = (false, eval (.Call (.Name "set" p2) [e] [] q) X.env) :: starEach [] X.env := by rfl) :
    Ce X (.Call (.Name "sorted" p) [.Call (.Name "set" p2) [e] [] q] [] pos) (tCB (Bs.rSortN X.K X.w) (tCons (tCB (Bs.rSetN X.K X.w) (tCons te tNil)) tNil)) (fSortSet F) :=
  ⟨pe_callB (Bs.cr_sortN hr hc) hg hm (by decide +kernel) (pa_cons (pe_callTy (Bs.cr_setN hc hr) hg2 hm2 (by decide +kernel) (pa_cons he.pe pa_nil s1) (by decide) (by decide) s1 rfl) pa_nil s2) (by decide) (by decide) s2 rfl, fun N S H σ ρ z R hz Q k => by
    unfold fSortSet at hz
    split at hz
    · rename_i d e1
      unfold dSortSet at hz
      split at hz
      · rename_i ds
        split at hz
        · rename_i ks e2
          split at hz
          · rename_i few
            cases hz
            refine he.so N S H σ ρ _ R e1 _ fun v H1 x1 o1 => ?_
            cases o1 with
            | lst ha hs =>
            rw [rowsOf_eq e2, ← map_kT] at hs
            exact encR.go (R.al.mono x1) ha hs (nodup_dedup ks) (fun x => mem_dedup) few fun v H2 x2 o => k v H2 (x1.trans x2) (by rw [map_kT] at o; exact o)
          · cases hz
        · split at hz
          · rename_i ks e2
            split at hz
            · rename_i few
              cases hz
              refine he.so N S H σ ρ _ R e1 _ fun v H1 x1 o1 => ?_
              cases o1 with
              | lst ha hs =>
              rw [rows2Of_eq e2, ← map_kT2] at hs
              exact encP.go (R.al.mono x1) ha hs (nodup_dedup2 ks) (fun x => mem_dedup2) few fun v H2 x2 o => k v H2 (x1.trans x2) (by rw [map_kT2] at o; exact o)
            · cases hz
          · cases hz
      · cases hz
    · cases hz⟩
end
end Wd

set_option Elab.async false
set_option linter.all false
set_option maxRecDepth 100000
set_option maxHeartbeats 4000000
set_option autoImplicit false

namespace WdT
open PySem PyProof.Rows HT L2
section
variable {prog : Program} {w : World} {A : Around} {E : Value → Shared → Prop} {s : Shared}
theorem no_tuple_iadd : typeLookup (.type "tuple") (dunderI "add") = pure none := by rw [typeLookup_type, builtinLookup_eq_fast]; kernel_rfl
theorem icat_meets {B : Builtin} {a b : Value} {S : PySem.Spec} {Q : Value → Shared → Prop} (ha : s.TypeIs a "tuple") (hb : s.TypeIs b "tuple")
    (entry : entryFor table "tuple.__add__" = some B) (args : argsOk "tuple.__add__" ⟨[a, b], []⟩) (g : Meets (B ⟨[a, b], []⟩) S) (h : S A (wants Q E) s) : wpAny (model prog w) A (inplaceOp .Add a b) Q E s :=
  wpAny_inplaceOp_concat ha hb no_tuple_iadd noFill_tuple_add seq_tuple_add (call_meets PySem.F.slot_tuple_add ha entry args g h)
theorem icat_tup {t b : Addr} {vs ws : List Value} {Q : Value → Shared → Prop} (ht : IsTup s.heap t vs.toArray) (hb : IsTup s.heap b ws.toArray) (h0 : vs = [] → Q (.ref b) s)
    (h1 : vs ≠ [] → ws = [] → Q (.ref t) s) (h2 : vs ≠ [] → ws ≠ [] → Q (.ref s.heap.objs.size) { s with heap := s.heap.push { cls := .type "tuple", data := .seq (vs ++ ws).toArray } })
    (hsz : vs.length + ws.length ≤ sizeLine) : wpAny (model prog w) A (inplaceOp .Add (.ref t) (.ref b)) Q E s := by
  obtain ⟨⟨cls, dd, data, sl⟩, ho, hc, n, hd⟩ := id ht
  obtain ⟨⟨cls2, dd2, data2, sl2⟩, ho2, hc2, n2, hd2⟩ := id hb
  simp only at hc hd hc2 hd2
  subst hc hd hc2 hd2
  have e : vs.toArray ++ ws.toArray = (vs ++ ws).toArray := by simp
  by_cases hv : vs = []
  · exact icat_meets ⟨_, ho, rfl⟩ ⟨_, ho2, rfl⟩ PySem.F.entry_tuple_add (PySem.F.args_tuple_add_2 _ _) (tuple_addW0 t b vs.toArray ws.toArray n n2 dd dd2 sl sl2 (by simp [hv])) ⟨ho, ho2, h0 hv⟩
  · by_cases hw : ws = []
    · exact icat_meets ⟨_, ho, rfl⟩ ⟨_, ho2, rfl⟩ PySem.F.entry_tuple_add (PySem.F.args_tuple_add_2 _ _)
        (tuple_addW1 t b vs.toArray ws.toArray n n2 dd dd2 sl sl2 (by simpa using hv) (by simp [hw])) ⟨ho, ho2, h1 hv hw⟩
    · refine icat_meets ⟨_, ho, rfl⟩ ⟨_, ho2, rfl⟩ PySem.F.entry_tuple_add (PySem.F.args_tuple_add_2 _ _)
        (tuple_addW2 t b vs.toArray ws.toArray n n2 dd dd2 sl sl2 (by simpa using hv) (by simpa using hw) (by rw [List.size_toArray, List.size_toArray]; exact hsz)) ⟨ho, ho2, ?_⟩
      rw [e]
      exact h2 hv hw
end
end WdT

namespace Wd
open PySem PyProof.Rows L2
theorem iop_catA {X : Cx} : OpR X (inplaceOp .Add) (rCatA X.K) := by
  intro pins s σ H x y v u Q I rx ry h
  obtain ⟨a, b, xs, ys, rfl, rfl, ha, hb, hz, q0, q1, q2⟩ := h
  cases rx
  cases ry
  obtain ⟨its, r1, p1, _⟩ := I.tuple ha
  obtain ⟨its2, r2, p2, _⟩ := I.tuple hb
  have l1 := r1.length
  have l2 := r2.length
  have n1 : its = [] ↔ xs = [] := r1.nil_iff
  have n2 : its2 = [] ↔ ys = [] := r2.nil_iff
  refine WdT.icat_tup p1 p2 (fun e => ⟨.ref b, H, I, rfl, q0 (n1.mp e)⟩) (fun e e2 => ⟨.ref a, H, I, rfl, q1 (fun z => e (n1.mpr z)) (n2.mp e2)⟩) (fun e e2 => ?_) (by omega)
  refine ⟨.ref s.heap.objs.size, _, I.laid (t' := s.toks) (o := .tup (xs ++ ys)) (fun b ob q => Heap.get?_push_of_some _ q) (Nat.le_refl _) ?_, rfl, q2 (fun z => e (n1.mpr z)) (fun z => e2 (n2.mpr z)) _ (I.hok.fresh (Nat.le_refl _))⟩
  exact ⟨by rw [List.length_append]; exact hz, _, r1.append r2, IsTup.new _ _⟩
def dAddI : D → D → Option D
  | .int i, .int j => some (.int (i + j))
  | .tuple a, .tuple b => if a.length + b.length ≤ 100000 then some (.tuple (a ++ b)) else none
  | _, _ => none
def ipPlus (K : PySem.W.Frag) : TIp := fun x y H Q => (∃ i j, x = V.int i ∧ y = V.int j ∧ Q (.int (i + j)) H) ∨ rCatA K x y H Q
theorem ip_plus {X : Cx} : PIp X .Add (ipPlus X.K) := fun pins s σ H x y v u Q I rx ry h => (iop_add.or iop_catA) pins s σ H x y v u Q I rx ry h
theorem rd_plusI {K : PySem.W.Frag} : RD2 (ipPlus K) dAddI := fun S H x y d e z al hx hy hz Q k => by
  unfold dAddI at hz
  split at hz
  · cases hz; cases hx; cases hy
    exact .inl ⟨_, _, rfl, rfl, k _ H (Evl.Ex.refl H) (.int _)⟩
  · split at hz
    · rename_i hl
      cases hz
      cases hx with
      | tup ha hs =>
      cases hy with
      | tup hb ht =>
      have l1 := hs.length
      have l2 := ht.length
      refine .inr ⟨_, _, _, _, rfl, rfl, SqT.of (cut_some ha).2, SqT.of (cut_some hb).2, sz_of (by rw [l1, l2]; exact hl), fun e => ?_, fun e1 e2 => ?_, fun _ _ p hp => ?_⟩
      · subst e
        cases hs
        exact k _ H (Evl.Ex.refl H) (.tup hb ht)
      · subst e2
        cases ht
        rw [List.append_nil] at k
        exact k _ H (Evl.Ex.refl H) (.tup ha hs)
      · exact k _ _ (newT hp al (hs.append ht)).1 (newT hp al (hs.append ht)).2
    · cases hz
  · cases hz
theorem ip_minus {X : Cx} : PIp X .Sub (ipI fun i j => i - j) := ip_sub
theorem rd_minusI : RD2 (ipI fun i j => i - j) dSub := rd_sub

/-! ### a def as its callers see it -/
def Cal (P : Program) (w : World) (K : PySem.W.Frag) (mg : Str → Option Value) (base : Heap) (x : Str) (k : Nat) (g : List D → Option D) : Prop :=
  ∃ (f : Addr) (fd : FuncData) (ps : List Str), FnOk P w K mg base CX0 k f fd ps (spD g) ∧ mg x = some (.ref f) ∧ PySem.W.keepIn K (.ref f) = true ∧ Binds K fd ps []
section
variable {X : Cx} {e : Expr} {es : List Expr} {t : TA} {L : FA} {pos p : Pos}
theorem ce_callC {g : List D → Option D} {j k : Nat} {x : Str} (C : Cal X.prog X.w X.K X.mg X.base x k g) (hr : Room j X.A) (ha : Ca X (e :: es) t L) (hj : k ≤ j := by decide) (hg : Gl X x := by rfl)
    (hdb : (x == ("__debug__" : Str)) = false := by decide) (he : starEach (e :: es) X.env = (false, eval e X.env) :: starEach es X.env := by rfl) (hpl : (backTo pos (starEach es X.env)).any (·.1) = false := by rfl) :
    Ce X (.Call (.Name x p) (e :: es) [] pos) (tCall (spD g) [] E0 t) (fApp g L) := by
  obtain ⟨f, fd, ps, F, hm, hk, hb⟩ := C
  exact ce_call F hr hj hg hm hk hb ha hdb he hpl
end
section
variable {P : Program} {w : World} {K : PySem.W.Frag} {mg : Str → Option Value} {base : Heap}
theorem cal_of {x qual : Str} {st : Stmt} {f : Addr} {fd : FuncData} {M ps : List Str} {k : Nat} {G : FS} (F : Fun K x qual st f fd) (S : FnScope M ps (defScope st)) (gm : mg x = some (.ref f)) (b : Binds K fd ps [])
    (hbody : ∀ (cdv : Value) (A : Around) (outer : List PySem.Env) (s : Shared) (H : Hp) (E : XK), Room k (A.deeper (envOfC qual (defScope st) s.heap.objs.size f cdv)) → ∃ t, Css (cxOf CX0 P w K mg base M qual (defScope st) f cdv A outer s H E).nox (defBody st) t G) :
    Cal P w K mg base x (k + 1) (run M.length ps.length G) := ⟨f, fd, ps, fn_data F S hbody, gm, F.kp, b⟩
theorem Cal.mono {x : Str} {j k : Nat} {g : List D → Option D} (C : Cal P w K mg base x j g) (h : j ≤ k) : Cal P w K mg base x k g := by
  obtain ⟨f, fd, ps, F, hm, hk, hb⟩ := C
  exact ⟨f, fd, ps, F.mono h, hm, hk, hb⟩
end
/-- the built-in names are the built-in ones -/
structure Bt (mg : Str → Option Value) : Prop where
  len : mg "len" = none
  range : mg "range" = none
  tuple : mg "tuple" = none
  list : mg "list" = none
  sorted : mg "sorted" = none
  set : mg "set" = none
  sum : mg "sum" = none
  min : mg "min" = none
  max : mg "max" = none
  all : mg "all" = none
  any : mg "any" = none
  int : mg "int" = none
  isinstance : mg "isinstance" = none
  bool : mg "bool" = none
  str : mg "str" = none
section
variable {X : Cx} {e : Expr} {es : List Expr} {t : TA} {L : FA} {pos p : Pos} {te : TE} {F : F1}
theorem ce_len (T : Bt X.mg) (ha : Ca X [e] t L) (hg : Gl X "len" := by rfl) (he : starEach [e] X.env = (false, eval e X.env) :: starEach [] X.env := by rfl) : Ce X (.Call (.Name "len" p) [e] [] pos) (tCB (rLen X.K) t) (fApp dLen L) := ce_callB cr_len rd_len hg T.len (by decide +kernel) ha (by decide) (by decide) he rfl
def rInt1 : List V → Hp → VK → Prop := fun xs H Q => (∃ i, xs = [.int i] ∧ Q (.int i) H) ∨ ∃ k, xs = [.bl k] ∧ Q (.int (if k then 1 else 0)) H
def rList1 (K : PySem.W.Frag) : List V → Hp → VK → Prop := fun xs H Q => ∃ p ys, xs = [.ref p] ∧ (SqL K H p ys ∨ SqT K H p ys) ∧ ∀ l, H l = none → Q (.ref l) (upd H l (.lst ys))
def rTuple1 (K : PySem.W.Frag) : List V → Hp → VK → Prop := fun xs H Q => ∃ p ys, xs = [.ref p] ∧ ((SqL K H p ys ∧ ∀ l, H l = none → Q (.ref l) (upd H l (.tup ys))) ∨ (SqT K H p ys ∧ Q (.ref p) H))
theorem ce_int1 (T : Bt X.mg) (ha : Ca X [e] t L) (hg : Gl X "int" := by rfl) (he : starEach [e] X.env = (false, eval e X.env) :: starEach [] X.env := by rfl) : Ce X (.Call (.Name "int" p) [e] [] pos) (tCB rInt1 t) (fApp dInt L) := ce_callTy call_int1 rd_int hg T.int (by decide +kernel) ha (by decide) (by decide) he rfl
theorem ce_list1 (T : Bt X.mg) (ha : Ca X [e] t L) (hg : Gl X "list" := by rfl) (he : starEach [e] X.env = (false, eval e X.env) :: starEach [] X.env := by rfl) : Ce X (.Call (.Name "list" p) [e] [] pos) (tCB (rList1 X.K) t) (fApp dList L) := ce_callTy call_list_of rd_list hg T.list (by decide +kernel) ha (by decide) (by decide) he rfl
theorem ce_tuple1 (T : Bt X.mg) (ha : Ca X [e] t L) (hg : Gl X "tuple" := by rfl) (he : starEach [e] X.env = (false, eval e X.env) :: starEach [] X.env := by rfl) : Ce X (.Call (.Name "tuple" p) [e] [] pos) (tCB (rTuple1 X.K) t) (fApp dTuple L) := ce_callTy call_tuple_of rd_tuple hg T.tuple (by decide +kernel) ha (by decide) (by decide) he rfl
theorem ce_sum1 (T : Bt X.mg) (hc : X.calm = true) (ha : Ca X [e] t L) (hg : Gl X "sum" := by rfl) (he : starEach [e] X.env = (false, eval e X.env) :: starEach [] X.env := by rfl) : Ce X (.Call (.Name "sum" p) [e] [] pos) (tCB (rSum X.K) t) (fApp dSum L) := ce_callB (cr_sum hc) rd_sum hg T.sum (by decide +kernel) ha (by decide) (by decide) he rfl
theorem ce_all1 (T : Bt X.mg) (hc : X.calm = true) (ha : Ca X [e] t L) (hg : Gl X "all" := by rfl) (he : starEach [e] X.env = (false, eval e X.env) :: starEach [] X.env := by rfl) : Ce X (.Call (.Name "all" p) [e] [] pos) (tCB (rAll X.K) t) (fApp dAll L) := ce_callB (cr_all hc) rd_all hg T.all (by decide +kernel) ha (by decide) (by decide) he rfl
theorem ce_any1 (T : Bt X.mg) (hc : X.calm = true) (ha : Ca X [e] t L) (hg : Gl X "any" := by rfl) (he : starEach [e] X.env = (false, eval e X.env) :: starEach [] X.env := by rfl) : Ce X (.Call (.Name "any" p) [e] [] pos) (tCB (rAny X.K) t) (fApp dAny L) := ce_callB (cr_any hc) rd_any hg T.any (by decide +kernel) ha (by decide) (by decide) he rfl
theorem ce_min1 {k : Nat} (T : Bt X.mg) (hr : Room k X.A) (hc : X.calm = true) (ha : Ca X [e] t L) (hg : Gl X "min" := by rfl) (he : starEach [e] X.env = (false, eval e X.env) :: starEach [] X.env := by rfl) : Ce X (.Call (.Name "min" p) [e] [] pos) (tCB (rBestD PySem.W.minD X.K) t) (fApp dMin L) := ce_callB (cr_minD hr hc) rd_best hg T.min (by decide +kernel) ha (by decide) (by decide) he rfl
theorem ce_max1 {k : Nat} (T : Bt X.mg) (hr : Room k X.A) (hc : X.calm = true) (ha : Ca X [e] t L) (hg : Gl X "max" := by rfl) (he : starEach [e] X.env = (false, eval e X.env) :: starEach [] X.env := by rfl) : Ce X (.Call (.Name "max" p) [e] [] pos) (tCB (rBestD PySem.W.maxD X.K) t) (fApp dMax L) := ce_callB (cr_maxD hr hc) rd_best hg T.max (by decide +kernel) ha (by decide) (by decide) he rfl
theorem ce_sorted1 {k : Nat} (T : Bt X.mg) (hr : Room k X.A) (ha : Ca X [e] t L) (hg : Gl X "sorted" := by rfl) (he : starEach [e] X.env = (false, eval e X.env) :: starEach [] X.env := by rfl) : Ce X (.Call (.Name "sorted" p) [e] [] pos) (tCB (rSortedD X.K) t) (fApp dSorted L) := ce_callB (cr_sortedD hr) rd_sorted hg T.sorted (by decide +kernel) ha (by decide) (by decide) he rfl
theorem ct_frz {tt : TE} (h : Ce X e tt F) : Ce X e tt (fFrz F) := ce_frz h
/-- a test seen with one's own lists as data -/
def tFrz (B : FT) : FT := fun ρ => B (frz ρ)
theorem ct_frzT {tt : TT} {B : FT} (h : Ct X e tt B) : Ct X e tt (tFrz B) := ⟨h.pt, fun N S H σ ρ b R hz Q k => h.so N _ H σ (frz ρ) b R.frz hz Q k⟩
end
end Wd

set_option Elab.async false
set_option linter.all false
set_option maxRecDepth 100000
set_option maxHeartbeats 4000000
set_option autoImplicit false
namespace Wd
open PySem PyProof.Rows L2

/-! ### x[i] = e, x.append(e), x.extend(e), x one's own -/
def gPut (i : Nat) (I F : F1) : FS := fun ρ => match ρ[i]? with
  | some (some (.own ds)) => match F ρ with
    | some d => match I ρ with
      | some (.int k) => match ixN ds.length k with
        | some j => .nx (ρ.set i (some (.own (ds.set j d))))
        | none => .no
      | _ => .no
    | none => .no
  | _ => .no
section
variable {X : Cx} {e ix : Expr} {te ti : TE} {F I : F1} {pos pos' p1 p2 : Pos}
theorem so_put {i : Nat} (he : SE te F) (hi : SE ti I) : SS (tAsg te (gSub (tVar i) ti rSetL)) (gPut i I F) := fun N H0 S H σ ρ E R k => by
  unfold gPut at k
  split at k
  · rename_i ds e0
    split at k
    · rename_i d e1
      split at k
      · rename_i n e2
        split at k
        · rename_i j e3
          obtain ⟨v, sv, p, vs, rfl, sp, np, hp, hv⟩ := R.e.cell i _ e0
          refine he N S H σ ρ d R.e e1 _ fun w H1 x1 o1 => ?_
          refine ⟨.ref p, sv, ?_⟩
          refine hi N S H1 σ ρ _ (R.e.mono x1) e2 _ fun w2 H2 x2 o2 => ?_
          cases o2
          have x12 := x1.trans x2
          have R2 := R.mono x12
          refine ⟨p, vs, n, j, rfl, rfl, x12 _ _ hp, by rw [hv.length]; exact e3, ?_⟩
          exact k S _ σ ⟨R2.e.put e0 sv ((DaAll.mono (cut_mono x12) _ _ hv).set (Da.mono (cut_mono x2) _ _ o1) j), Evl.Ex.mut R2.ex (R2.new p sp np), R2.new⟩
        · exact k.elim
      · exact k.elim
    · exact k.elim
  · exact k.elim
theorem cs_put {i : Nat} {x : Str} (he : Ce X e te F) (hi : Ce X ix ti I) (hN : X.N[i]? = some x := by rfl) (hv : Vis X.env.scope x := by first | exact Or.inl rfl | exact Or.inr (Or.inl rfl) | exact Or.inr (Or.inr rfl)) (h1 : (x == ("__debug__" : Str)) = false := by decide) (h2 : (x == ("__classdict__" : Str)) = false := by decide)
    (hs : swapsWithSole [.Subscript (.Name x p1) ix p2] e pos.line X.env = pure false := by rfl) (hw : swappedStores [.Subscript (.Name x p1) ix p2] e X.env = pure none := by rfl)
    (ha : (assignEach [.Subscript (.Name x p1) ix p2] X.env).map (·.2) = [assign (.Subscript (.Name x p1) ix p2) X.env] := by rfl)
    (hp : ∀ v, assign (.Subscript (.Name x p1) ix p2) X.env v = (do
      let ov ← holding [v] (eval (.Name x p1) X.env)
      let iv ← holding [v, ov] (eval ix X.env)
      standAt p2
      holding [v, ov, iv] (setItem ov iv v)
      release [v, ov, iv] []) := by intro _; rfl) :
    Cs X (.Assign [.Subscript (.Name x p1) ix p2] e pos) (tAsg te (gSub (tVar i) ti rSetL)) (gPut i I F) :=
  ⟨ps_asg he.pe (pg_sub (pe_var hN hv h1 h2) hi.pe set_list hp) hs hw ha, so_put he.so hi.so⟩
theorem cs_append {i : Nat} {x : Str} (he : Ce X e te F) (hN : X.N[i]? = some x := by rfl) (hv : Vis X.env.scope x := by first | exact Or.inl rfl | exact Or.inr (Or.inl rfl) | exact Or.inr (Or.inr rfl)) (h1 : (x == ("__debug__" : Str)) = false := by decide) (h2 : (x == ("__classdict__" : Str)) = false := by decide)
    (hs : swapsWith (.Call (.Attribute (.Name x p1) "append" p2) [e] [] pos) none pos'.line X.env = pure false := by rfl)
    (hbase : attributeBase (.Name x p1) "append" X.env (eval (.Name x p1) X.env) = eval (.Name x p1) X.env := by rfl)
    (hfew : ((backTo pos (starEach [e] X.env)).all (fun x => !x.1) && (backToKw pos (keywordEach [] X.env)).all (fun x => x.1.isSome)
      && decide ([e].length + ([] : List Keyword).length + (if ([] : List Keyword).isEmpty then 0 else 1) < 30)) = true := by rfl)
    (hline : (p2.endLine == pos.line) = true := by rfl) (s1 : starEach [e] X.env = (false, eval e X.env) :: starEach [] X.env := by rfl) (hplain : (backTo pos (starEach [] X.env)).any (·.1) = false := by rfl) :
    Cs X (.Expr (.Call (.Attribute (.Name x p1) "append" p2) [e] [] pos) pos') (tDrop (tBM X.K "list" rAppend (tVar i) (tCons te tNil))) (gApp i F) :=
  ⟨ps_expr (pe_bm PySem.F.plainAttrs_list PySem.F.slot_list_append PySem.F.type_list_append mt_append (pe_var hN hv h1 h2) (pa_cons he.pe pa_nil s1) hbase hfew hline s1 hplain) hs, so_appd he.so⟩
def gExt (i : Nat) (L : F1) : FS := fun ρ => match ρ[i]? with
  | some (some (.own ds)) => match L ρ with
    | some (.list es) => if ds.length + es.length < 100000 then .nx (ρ.set i (some (.own (ds ++ es)))) else .no
    | _ => .no
  | _ => .no
theorem so_ext {i : Nat} (h : SE te F) : SS (tDrop (tBM X.K "list" rExtend (tVar i) (tCons te tNil))) (gExt i F) := fun N H0 S H σ ρ E R k => by
  unfold gExt at k
  split at k
  · rename_i ds e0
    split at k
    · rename_i es e1
      split at k
      · rename_i hl
        obtain ⟨v, sv, p, vs, rfl, sp, np, hp, hv⟩ := R.e.cell i _ e0
        refine ⟨.ref p, sv, .inl ⟨rfl, vs, SqL.of hp⟩, ?_⟩
        refine h N S H σ ρ _ R.e e1 _ fun w H1 x1 o1 => ?_
        have R1 := R.mono x1
        have hp1 := x1 _ _ hp
        cases o1 with
        | lst ha hs =>
        refine ⟨p, _, vs, _, rfl, rfl, hp1, (cut_some ha).2, by have := hv.length; have := hs.length; have := sizeLine_eq; omega, ?_⟩
        exact k S _ σ ⟨R1.e.put e0 sv ((DaAll.mono (cut_mono x1) _ _ hv).append hs), Evl.Ex.mut R1.ex (R1.new p sp np), R1.new⟩
      · exact k.elim
    · exact k.elim
  · exact k.elim
theorem cs_extend {i : Nat} {x : Str} (he : Ce X e te F) (hN : X.N[i]? = some x := by rfl) (hv : Vis X.env.scope x := by first | exact Or.inl rfl | exact Or.inr (Or.inl rfl) | exact Or.inr (Or.inr rfl)) (h1 : (x == ("__debug__" : Str)) = false := by decide) (h2 : (x == ("__classdict__" : Str)) = false := by decide)
    (hs : swapsWith (.Call (.Attribute (.Name x p1) "extend" p2) [e] [] pos) none pos'.line X.env = pure false := by rfl)
    (hbase : attributeBase (.Name x p1) "extend" X.env (eval (.Name x p1) X.env) = eval (.Name x p1) X.env := by rfl)
    (hfew : ((backTo pos (starEach [e] X.env)).all (fun x => !x.1) && (backToKw pos (keywordEach [] X.env)).all (fun x => x.1.isSome)
      && decide ([e].length + ([] : List Keyword).length + (if ([] : List Keyword).isEmpty then 0 else 1) < 30)) = true := by rfl)
    (hline : (p2.endLine == pos.line) = true := by rfl) (s1 : starEach [e] X.env = (false, eval e X.env) :: starEach [] X.env := by rfl) (hplain : (backTo pos (starEach [] X.env)).any (·.1) = false := by rfl) :
    Cs X (.Expr (.Call (.Attribute (.Name x p1) "extend" p2) [e] [] pos) pos') (tDrop (tBM X.K "list" rExtend (tVar i) (tCons te tNil))) (gExt i F) :=
  ⟨ps_expr (pe_bm PySem.F.plainAttrs_list PySem.F.slot_list_extend PySem.F.type_list_extend mt_extend (pe_var hN hv h1 h2) (pa_cons he.pe pa_nil s1) hbase hfew hline s1 hplain) hs, so_ext he.so⟩
end

/-! ### a < b < c -/
def fChain (g h : D → D → Option D) (A B C : F1) : F1 := fun ρ => match A ρ with
  | some a => match B ρ with
    | some b => match g a b with
      | some (.bool true) => match C ρ with
        | some c => h b c
        | none => none
      | some (.bool false) => some (.bool false)
      | _ => none
    | none => none
  | none => none
section
variable {X : Cx} {a b c : Expr} {ta tb tc : TE} {A B C : F1} {pos : Pos} {r r' : R2} {g g' : D → D → Option D} {op op' : CmpOp}
theorem so_chain (h1 : RD2 r g) (h2 : RD2 r' g') (ha : SE ta A) (hb : SE tb B) (hc : SE tc C) : SE (tChain r r' ta tb tc) (fChain g g' A B C) := fun N S H σ ρ z R h Q k => by
  unfold fChain at h
  split at h
  · rename_i d1 e1
    split at h
    · rename_i d2 e2
      refine ha N S H σ ρ d1 R e1 _ fun v1 H1 x1 o1 => ?_
      refine hb N S H1 σ ρ d2 (R.mono x1) e2 _ fun v2 H2 x2 o2 => ?_
      have al := R.al.mono (x1.trans x2)
      split at h
      · rename_i e3
        split at h
        · rename_i d3 e4
          refine h1 S H2 v1 v2 d1 d2 _ al (Da.mono (cut_mono x2) _ _ o1) o2 e3 _ fun w H3 x3 o3 => ?_
          cases o3
          refine ⟨true, rfl, iteT ?_⟩
          refine hc N S H3 σ ρ d3 (R.mono ((x1.trans x2).trans x3)) e4 _ fun v4 H4 x4 o4 => ?_
          exact h2 S H4 v2 v4 d2 d3 z (al.mono (x3.trans x4)) (Da.mono (cut_mono (x3.trans x4)) _ _ o2) o4 h Q fun v H5 x5 o5 => k v H5 ((((x1.trans x2).trans x3).trans x4).trans x5) o5
        · cases h
      · rename_i e3
        cases h
        refine h1 S H2 v1 v2 d1 d2 _ al (Da.mono (cut_mono x2) _ _ o1) o2 e3 _ fun w H3 x3 o3 => ?_
        cases o3
        exact ⟨false, rfl, iteF (k _ H3 ((x1.trans x2).trans x3) (.bl false))⟩
      · cases h
    · cases h
  · cases h
theorem ce_chain (ho : OpR X (compareOp op) r) (ho' : OpR X (compareOp op') r') (h1 : RD2 r g) (h2 : RD2 r' g') (ha : Ce X a ta A) (hb : Ce X b tb B) (hc : Ce X c tc C) (hm : lastMarks [op, op'] [b, c] = false := by with_unfolding_all rfl) :
    Ce X (.Compare a [op, op'] [b, c] pos) (tChain r r' ta tb tc) (fChain g g' A B C) := ⟨pe_chain ho ho' ha.pe hb.pe hc.pe hm, so_chain h1 h2 ha.so hb.so hc.so⟩
theorem ct_chain (ho : OpR X (compareOp op) r) (ho' : OpR X (compareOp op') r') (h1 : RD2 r g) (h2 : RD2 r' g') (ha : Ce X a ta A) (hb : Ce X b tb B) (hc : Ce X c tc C) (hm : lastMarks [op, op'] [b, c] = false := by with_unfolding_all rfl) :
    Ct X (.Compare a [op, op'] [b, c] pos) (tTest (tChain r r' ta tb tc)) (fTest (fChain g g' A B C)) := ⟨pt_chain ho ho' ha.pe hb.pe hc.pe hm, so_test (so_chain h1 h2 ha.so hb.so hc.so)⟩
end
section
variable {X : Cx} {elt tg iter : Expr} {ifs : List Expr} {scope : Scope} {own : List (Str × Nat)} {pos spos py : Pos} {wi : TI} {g : TG} {tt : TT} {te : TE} {L : FA} {f : D → Env → Option Env} {T : FT} {E : F1}
/-- x = [..] -/
theorem cs_setLc {i : Nat} {y : Str} (hc : X.calm = true) (hN : X.N.Nodup) (hi : Ci X tg iter wi L) (ok : BlkOk X.N X.env.scope scope own)
    (hg : ∀ (s : Shared) (H : Hp) (C : Addr) (cl : List (Str × Addr)) (fp : List Addr), Cg (X.blk s H scope (compEnvC scope cl C X.env) fp) tg g f) (hw : GW g (own.map (·.2)))
    (ht : ∀ (s : Shared) (H : Hp) (C : Addr) (cl : List (Str × Addr)) (fp : List Addr), Cts (X.blk s H scope (compEnvC scope cl C X.env) fp) ifs tt T)
    (he : ∀ (s : Shared) (H : Hp) (C : Addr) (cl : List (Str × Addr)) (fp : List Addr), Ce (X.blk s H scope (compEnvC scope cl C X.env) fp) elt te E)
    (hy : X.N[i]? = some y := by rfl) (hyl : X.env.scope.names.lookup y = some .local := by rfl)
    (hsw : swapsWith (.ListComp elt [⟨tg, iter, ifs, 0⟩] scope pos) (some (.Name y py)) spos.line X.env = pure true := by exact sw_true rfl rfl rfl (by decide +kernel)) (hs : ∀ x, foldedSetIterable iter X.env x = pure x := by intro _; rfl) :
    Cs X (.Assign [.Name y py] (.ListComp elt [⟨tg, iter, ifs, 0⟩] scope pos) spos) (tAsg (tLc wi g tt te (own.map (·.2))) (gName i)) (gSet i (fOfL (fLc L (own.map (·.2)) f T E))) :=
  ⟨ps_setLc hc hN hy hyl hsw hi.pi ok (fun s H C cl fp => (hg s H C cl fp).pg) (fun s H C cl fp => (ht s H C cl fp).pt) (fun s H C cl fp => (he s H C cl fp).pe) hs,
    so_set (so_ofL (so_lc hi.so (hg {} (fun _ => none) 0 [] []).so hw (ht {} (fun _ => none) 0 [] []).so (he {} (fun _ => none) 0 [] []).so))⟩
end
end Wd

set_option Elab.async false
set_option linter.all false
set_option maxRecDepth 100000
set_option maxHeartbeats 4000000
set_option autoImplicit false
namespace Wd
open PySem PyProof.Rows L2
/-! ### x, y = [..], e: x one's own -/
def gParO (i j : Nat) (L : FA) (F : F1) : FS := fun ρ => match L ρ with
  | some ds => match F ρ with
    | some b => .nx ((ρ.set i (some (.own ds))).set j (some (.dat b)))
    | none => .no
  | none => .no
section
variable {X : Cx} {a b : Expr} {ta tb : TE} {L : FA} {F : F1}
theorem so_parO {i j : Nat} (ha : SL ta L) (hb : SE tb F) : SS (tPar i j (tCons ta (tCons tb tNil))) (gParO i j L F) := fun N H0 S H σ ρ E R k => by
  unfold gParO at k
  split at k
  · rename_i ds e1
    split at k
    · rename_i d e2
      refine ha N S H σ ρ ds R.e e1 _ fun p vs H1 x1 hp h1 o1 => ?_
      have R1 := R.e.new hp h1 x1
      refine hb N _ H1 σ ρ d R1 e2 _ fun v H2 x2 o2 => ?_
      refine ⟨_, _, rfl, ?_⟩
      have R2 := R.e.setOwn (i := i) hp (x1.trans x2) (x2 _ _ h1) (DaAll.mono (cut_mono x2) _ _ o1)
      refine k _ H2 _ ⟨R2.set o2, R.ex.trans (x1.trans x2), fun a q na => ?_⟩
      rcases q with q | q
      · exact R.new a q na
      · rw [q]; exact Evl.fresh_back R.ex hp
    · exact k.elim
  · exact k.elim
theorem cs_parO {i j : Nat} {x y : Str} {px py pt pos : Pos} {kt k2 : Nat} {pt2 : Pos} (hc : X.calm = true) (hN : X.N.Nodup) (ha : Cl X a ta L) (hb : Ce X b tb F) (hi : X.N[i]? = some x := by rfl) (hj : X.N[j]? = some y := by rfl) (hij : i ≠ j := by decide)
    (hx : X.env.scope.names.lookup x = some .local := by rfl) (hy : X.env.scope.names.lookup y = some .local := by rfl)
    (hw : swappedStores [.Tuple [.Name x px, .Name y py] kt pt] (.Tuple [a, b] k2 pt2) X.env = pure (some [x, y]) := by rfl)
    (hs : swapsWithSole [.Tuple [.Name x px, .Name y py] kt pt] (.Tuple [a, b] k2 pt2) pos.line X.env = pure false := by rfl)
    (s1 : starEach [a, b] X.env = (false, eval a X.env) :: starEach [b] X.env := by rfl) (s2 : starEach [b] X.env = (false, eval b X.env) :: starEach [] X.env := by rfl) :
    Cs X (.Assign [.Tuple [.Name x px, .Name y py] kt pt] (.Tuple [a, b] k2 pt2) pos) (tPar i j (tCons ta (tCons tb tNil))) (gParO i j L F) := ⟨ps_par hc hN hi hj hij hx hy (pa_cons ha.pe (pa_cons hb.pe pa_nil s2) s1) hw hs, so_parO ha.so hb.so⟩
theorem so_parC {K : PySem.W.Frag} {i j : Nat} (ha : SL ta L) (hb : SE tb F) : SS (tAsg (tTup (tCons ta (tCons tb tNil))) (gTup K 2 (gCons (gName i) (gCons (gName j) gNil)))) (gParO i j L F) := fun N H0 S H σ ρ E R k => by
  unfold gParO at k
  split at k
  · rename_i ds e1
    split at k
    · rename_i d e2
      refine ha N S H σ ρ ds R.e e1 _ fun p vs H1 x1 hp h1 o1 => ?_
      have R1 := R.e.new hp h1 x1
      refine hb N _ H1 σ ρ d R1 e2 _ fun v H2 x2 o2 => ⟨sz_of (by show 2 ≤ 100000; decide), fun t ht => ?_⟩
      have x3 : Ex H2 (upd H2 t (.tup [.ref p, v])) := Evl.Ex.new ht
      have R2 := R.e.setOwn (i := i) hp ((x1.trans x2).trans x3) (x3 _ _ (x2 _ _ h1)) (DaAll.mono (cut_mono (x2.trans x3)) _ _ o1)
      refine ⟨t, _, rfl, SqT.of upd_same, rfl, _, _, rfl, _, _, rfl, rfl, ?_⟩
      refine k _ _ _ ⟨R2.set (Da.mono (cut_mono x3) _ _ o2), R.ex.trans ((x1.trans x2).trans x3), fun a q na => ?_⟩
      rcases q with q | q
      · exact R.new a q na
      · rw [q]; exact Evl.fresh_back R.ex hp
    · exact k.elim
  · exact k.elim
/-- .. where a name is seen from a comprehension -/
theorem cs_parC {i j : Nat} {x y : Str} {px py pt pos : Pos} {kt k2 : Nat} {pt2 : Pos} (hc : X.calm = true) (ha : Cl X a ta L) (hb : Ce X b tb F) (h1 : Cg X (.Name x px) (gName i) (sName i)) (h2 : Cg X (.Name y py) (gName j) (sName j))
    (hs : swapsWithSole [.Tuple [.Name x px, .Name y py] kt pt] (.Tuple [a, b] k2 pt2) pos.line X.env = pure false := by rfl) (hw : swappedStores [.Tuple [.Name x px, .Name y py] kt pt] (.Tuple [a, b] k2 pt2) X.env = pure none := by rfl)
    (hA : (assignEach [.Tuple [.Name x px, .Name y py] kt pt] X.env).map (·.2) = [assign (.Tuple [.Name x px, .Name y py] kt pt) X.env] := by rfl)
    (hn : (assignEach [.Name x px, .Name y py] X.env).length = 2 := by rfl) (hst : (assignEach [.Name x px, .Name y py] X.env).findIdx? (·.1) = none := by rfl)
    (hs1 : (assignEach [.Name x px, .Name y py] X.env).map (·.2) = assign (.Name x px) X.env :: (assignEach [.Name y py] X.env).map (·.2) := by rfl) (hs2 : (assignEach [.Name y py] X.env).map (·.2) = assign (.Name y py) X.env :: (assignEach [] X.env).map (·.2) := by rfl)
    (s1 : starEach [a, b] X.env = (false, eval a X.env) :: starEach [b] X.env := by rfl) (s2 : starEach [b] X.env = (false, eval b X.env) :: starEach [] X.env := by rfl) :
    Cs X (.Assign [.Tuple [.Name x px, .Name y py] kt pt] (.Tuple [a, b] k2 pt2) pos) (tAsg (tTup (tCons ta (tCons tb tNil))) (gTup X.K 2 (gCons (gName i) (gCons (gName j) gNil)))) (gParO i j L F) :=
  ⟨ps_asg (pe_tup (pa_cons ha.pe (pa_cons hb.pe pa_nil s2) s1)) (pg_tup hc (pgs_cons h1.pg (pgs_cons h2.pg pgs_nil hs2) hs1) hn hst) hs hw hA, so_parC ha.so hb.so⟩
end
end Wd

set_option Elab.async false
set_option linter.all false
set_option maxRecDepth 100000
set_option maxHeartbeats 4000000
set_option autoImplicit false
namespace Wd
open PySem PyProof.Rows L2
/-! ### the same rules with the marks named, for use within comprehensions -/
section
variable {X : Cx} {K : PySem.W.Frag} {e a b : Expr} {es : List Expr} {t : TA} {L : FA} {pos p p2 : Pos} {te ta tb : TE} {F G : F1}
theorem op_plusK (hK : X.K = K) : OpR X (binaryOp .Add) (rPlus K) := by subst hK; exact op_plus
theorem op_eqDK (hK : X.K = K) (hu : X.A.units + 64 < cLine) : OpR X (compareOp .Eq) (rEqD K) := by subst hK; exact op_eqD hu
theorem op_neDK (hK : X.K = K) (hu : X.A.units + 64 < cLine) : OpR X (compareOp .NotEq) (rNeD K) := by subst hK; exact op_neD hu
theorem op_inSK (hK : X.K = K) (hu : X.A.units + 65 < cLine) : OpR X (compareOp .In) (rInS K) := by subst hK; exact op_inS hu
theorem op_notInSK (hK : X.K = K) (hu : X.A.units + 65 < cLine) : OpR X (compareOp .NotIn) (rNotInS K) := by subst hK; exact op_notInS hu
theorem ip_plusK (hK : X.K = K) : PIp X .Add (ipPlus K) := by subst hK; exact ip_plus
theorem ix_seqK (hK : X.K = K) : IxR X (rIx K) := by subst hK; exact ix_seq
theorem ce_lenK (hK : X.K = K) (T : Bt X.mg) (ha : Ca X [e] t L) (hg : Gl X "len" := by rfl) (he : starEach [e] X.env = (false, eval e X.env) :: starEach [] X.env := by rfl) : Ce X (.Call (.Name "len" p) [e] [] pos) (tCB (rLen K) t) (fApp dLen L) := by subst hK; exact ce_len T ha hg he
theorem ce_list1K (hK : X.K = K) (T : Bt X.mg) (ha : Ca X [e] t L) (hg : Gl X "list" := by rfl) (he : starEach [e] X.env = (false, eval e X.env) :: starEach [] X.env := by rfl) : Ce X (.Call (.Name "list" p) [e] [] pos) (tCB (rList1 K) t) (fApp dList L) := by subst hK; exact ce_list1 T ha hg he
theorem ce_tuple1K (hK : X.K = K) (T : Bt X.mg) (ha : Ca X [e] t L) (hg : Gl X "tuple" := by rfl) (he : starEach [e] X.env = (false, eval e X.env) :: starEach [] X.env := by rfl) : Ce X (.Call (.Name "tuple" p) [e] [] pos) (tCB (rTuple1 K) t) (fApp dTuple L) := by subst hK; exact ce_tuple1 T ha hg he
theorem ce_sum1K (hK : X.K = K) (T : Bt X.mg) (hc : X.calm = true) (ha : Ca X [e] t L) (hg : Gl X "sum" := by rfl) (he : starEach [e] X.env = (false, eval e X.env) :: starEach [] X.env := by rfl) : Ce X (.Call (.Name "sum" p) [e] [] pos) (tCB (rSum K) t) (fApp dSum L) := by subst hK; exact ce_sum1 T hc ha hg he
theorem ce_all1K (hK : X.K = K) (T : Bt X.mg) (hc : X.calm = true) (ha : Ca X [e] t L) (hg : Gl X "all" := by rfl) (he : starEach [e] X.env = (false, eval e X.env) :: starEach [] X.env := by rfl) : Ce X (.Call (.Name "all" p) [e] [] pos) (tCB (rAll K) t) (fApp dAll L) := by subst hK; exact ce_all1 T hc ha hg he
theorem ce_any1K (hK : X.K = K) (T : Bt X.mg) (hc : X.calm = true) (ha : Ca X [e] t L) (hg : Gl X "any" := by rfl) (he : starEach [e] X.env = (false, eval e X.env) :: starEach [] X.env := by rfl) : Ce X (.Call (.Name "any" p) [e] [] pos) (tCB (rAny K) t) (fApp dAny L) := by subst hK; exact ce_any1 T hc ha hg he
theorem ce_min1K {k : Nat} (hK : X.K = K) (T : Bt X.mg) (hr : Room k X.A) (hc : X.calm = true) (ha : Ca X [e] t L) (hg : Gl X "min" := by rfl) (he : starEach [e] X.env = (false, eval e X.env) :: starEach [] X.env := by rfl) : Ce X (.Call (.Name "min" p) [e] [] pos) (tCB (rBestD PySem.W.minD K) t) (fApp dMin L) := by subst hK; exact ce_min1 T hr hc ha hg he
theorem ce_max1K {k : Nat} (hK : X.K = K) (T : Bt X.mg) (hr : Room k X.A) (hc : X.calm = true) (ha : Ca X [e] t L) (hg : Gl X "max" := by rfl) (he : starEach [e] X.env = (false, eval e X.env) :: starEach [] X.env := by rfl) : Ce X (.Call (.Name "max" p) [e] [] pos) (tCB (rBestD PySem.W.maxD K) t) (fApp dMax L) := by subst hK; exact ce_max1 T hr hc ha hg he
theorem ce_sorted1K {k : Nat} (hK : X.K = K) (T : Bt X.mg) (hr : Room k X.A) (ha : Ca X [e] t L) (hg : Gl X "sorted" := by rfl) (he : starEach [e] X.env = (false, eval e X.env) :: starEach [] X.env := by rfl) : Ce X (.Call (.Name "sorted" p) [e] [] pos) (tCB (rSortedD K) t) (fApp dSorted L) := by subst hK; exact ce_sorted1 T hr ha hg he
theorem ce_isiK {T : Str} {n : String} (hK : X.K = K) (hg : Gl X "isinstance") (hm : X.mg "isinstance" = none) (hgT : Gl X T) (hmT : X.mg T = none) (hvT : bootBuiltins T = some (.type n)) (he : Ce X e te F) (hnT : T ≠ "__name__" := by decide) (hdT : (T == ("__debug__" : Str)) = false := by decide)
    (s1 : starEach [e, .Name T p2] X.env = (false, eval e X.env) :: starEach [.Name T p2] X.env := by rfl) (s2 : starEach [.Name T p2] X.env = (false, eval (.Name T p2) X.env) :: starEach [] X.env := by rfl) (hpl : (backTo pos (starEach [.Name T p2] X.env)).any (·.1) = false := by rfl) :
    Ce X (.Call (.Name "isinstance" p) [e, .Name T p2] [] pos) (tCB (rIsi K) (tCons te (tCons (tC (.ty n)) tNil))) (fUn (dIsi n) F) := by subst hK; exact ce_isi hg hm hgT hmT hvT he hnT hdT s1 s2 hpl
theorem ce_slK {lo hi : Option Expr} {tl th : TO} {L U : FO} (hK : X.K = K) (h : Ce X a te F) (hl : Co X lo tl L) (hu : Co X hi th U) : Ce X (.Subscript a (.Slice lo hi none p2) pos) (tSl (rSlS K) te tl th) (fSl F L U) := by subst hK; exact ce_sl h hl hu
theorem ce_revLK {k : Nat} {p1 p3 : Pos} (hK : X.K = K) (h : Ce X a te F) : Ce X (.Subscript a (.Slice none none (some (.UnaryOp .USub (.Constant (.int 1) k p1) p2)) p3) pos) (tRevL K te) (fUn dRevL F) := by subst hK; exact ce_revL h
theorem ce_revTK {k : Nat} {p1 p3 : Pos} (hK : X.K = K) (h : Ce X a te F) : Ce X (.Subscript a (.Slice none none (some (.UnaryOp .USub (.Constant (.int 1) k p1) p2)) p3) pos) (tRevT K te) (fUn dRevT F) := by subst hK; exact ce_revT h
theorem ci_seqK {tg : Expr} (hK : X.K = K) (h : Ce X e te F) : Ci X tg e (iSeq K te) (fIter F) := by subst hK; exact ci_seq h
theorem cg_tup2K {i j k : Nat} {x y : Str} {p1 : Pos} (hK : X.K = K) (hc : X.calm = true) (h1 : Cg X (.Name x p1) (gName i) (sName i)) (h2 : Cg X (.Name y p2) (gName j) (sName j))
    (hn : (assignEach [.Name x p1, .Name y p2] X.env).length = 2 := by rfl) (hst : (assignEach [.Name x p1, .Name y p2] X.env).findIdx? (·.1) = none := by rfl)
    (hs1 : (assignEach [.Name x p1, .Name y p2] X.env).map (·.2) = assign (.Name x p1) X.env :: (assignEach [.Name y p2] X.env).map (·.2) := by rfl) (hs2 : (assignEach [.Name y p2] X.env).map (·.2) = assign (.Name y p2) X.env :: (assignEach [] X.env).map (·.2) := by rfl) :
    Cg X (.Tuple [.Name x p1, .Name y p2] k pos) (gTup K 2 (gCons (gName i) (gCons (gName j) gNil))) (sTup2 i j) := by subst hK; exact cg_tup2 hc h1 h2 hn hst hs1 hs2
theorem ce_sortSetK {P : Program} {w : World} {k : Nat} {q : Pos} (hK : X.K = K) (hP : X.prog = P) (hW : X.w = w) (hr : Room k X.A) (hc : X.calm = true) (hg : Gl X "sorted") (hm : X.mg "sorted" = none) (hg2 : Gl X "set") (hm2 : X.mg "set" = none) (he : Ce X e te F)
    (s1 : starEach [e] X.env = (false, eval e X.env) :: starEach [] X.env := by rfl) (s2 : starEach [.Call (.Name "set" p2) [e] [] q] X.env = (false, eval (.Call (.Name "set" p2) [e] [] q) X.env) :: starEach [] X.env := by rfl) :
    Ce X (.Call (.Name "sorted" p) [.Call (.Name "set" p2) [e] [] q] [] pos) (tCB (Bs.rSortN K w) (tCons (tCB (Bs.rSetN K w) (tCons te tNil)) tNil)) (fSortSet F) := by subst hK hP hW; exact ce_sortSet hr hc hg hm hg2 hm2 he s1 s2
end
end Wd

set_option Elab.async false
set_option linter.all false
set_option maxRecDepth 100000
set_option maxHeartbeats 4000000
set_option autoImplicit false
/-! How the plain functions are read off, step by step (as equations that are not by definition, so that the kernel needs no evaluation). -/
namespace Wd
open PySem PyProof.Rows L2
theorem ev_fBin {g : D → D → Option D} {F G : F1} {ρ : Env} : fBin g F G ρ = ((match F ρ with
  | some a => match G ρ with
    | some b => g a b
    | none => none
  | none => none)) := (Eq.refl (fBin g F G ρ)).trans (Eq.refl _)
theorem ev_fUn {g : D → Option D} {F : F1} {ρ : Env} : fUn g F ρ = ((match F ρ with
  | some a => g a
  | none => none)) := (Eq.refl (fUn g F ρ)).trans (Eq.refl _)
theorem ev_fCons {F : F1} {A : FA} {ρ : Env} : fCons F A ρ = ((match F ρ with
  | some a => match A ρ with
    | some as => some (a :: as)
    | none => none
  | none => none)) := (Eq.refl (fCons F A ρ)).trans (Eq.refl _)
theorem ev_fApp {g : List D → Option D} {A : FA} {ρ : Env} : fApp g A ρ = ((match A ρ with
  | some as => g as
  | none => none)) := (Eq.refl (fApp g A ρ)).trans (Eq.refl _)
theorem ev_fTup {A : FA} {ρ : Env} : fTup A ρ = ((match A ρ with
  | some as => if as.length ≤ 100000 then some (.tuple as) else none
  | none => none)) := (Eq.refl (fTup A ρ)).trans (Eq.refl _)
theorem ev_fLst {A : FA} {ρ : Env} : fLst A ρ = ((match A ρ with
  | some as => if as.length ≤ 100000 then some as else none
  | none => none)) := (Eq.refl (fLst A ρ)).trans (Eq.refl _)
theorem ev_fOfL {A : FA} {ρ : Env} : fOfL A ρ = ((match A ρ with
  | some as => some (.list as)
  | none => none)) := (Eq.refl (fOfL A ρ)).trans (Eq.refl _)
theorem ev_fTest {F : F1} {ρ : Env} : fTest F ρ = ((match F ρ with
  | some (.bool b) => some b
  | _ => none)) := (Eq.refl (fTest F ρ)).trans (Eq.refl _)
theorem ev_fAnd {A B : FT} {ρ : Env} : fAnd A B ρ = ((match A ρ with
  | some true => B ρ
  | some false => some false
  | none => none)) := (Eq.refl (fAnd A B ρ)).trans (Eq.refl _)
theorem ev_fOr {A B : FT} {ρ : Env} : fOr A B ρ = ((match A ρ with
  | some true => some true
  | some false => B ρ
  | none => none)) := (Eq.refl (fOr A B ρ)).trans (Eq.refl _)
theorem ev_fNot {A : FT} {ρ : Env} : fNot A ρ = ((match A ρ with
  | some b => some (!b)
  | none => none)) := (Eq.refl (fNot A ρ)).trans (Eq.refl _)
theorem ev_fAndV {F G : F1} {ρ : Env} : fAndV F G ρ = ((match F ρ with
  | some (.bool true) => G ρ
  | some (.bool false) => some (.bool false)
  | _ => none)) := (Eq.refl (fAndV F G ρ)).trans (Eq.refl _)
theorem ev_fOrV {F G : F1} {ρ : Env} : fOrV F G ρ = ((match F ρ with
  | some (.bool true) => some (.bool true)
  | some (.bool false) => G ρ
  | _ => none)) := (Eq.refl (fOrV F G ρ)).trans (Eq.refl _)
theorem ev_fNotV {F : F1} {ρ : Env} : fNotV F ρ = ((match F ρ with
  | some (.bool b) => some (.bool !b)
  | _ => none)) := (Eq.refl (fNotV F ρ)).trans (Eq.refl _)
theorem ev_fIf {B : FT} {F G : F1} {ρ : Env} : fIf B F G ρ = ((match B ρ with
  | some true => F ρ
  | some false => G ρ
  | none => none)) := (Eq.refl (fIf B F G ρ)).trans (Eq.refl _)
theorem ev_fFrz {F : F1} {ρ : Env} : fFrz F ρ = ((match F (frz ρ) with
  | some d => if lf d then some d else none
  | none => none)) := (Eq.refl (fFrz F ρ)).trans (Eq.refl _)
theorem ev_fIter {F : F1} {ρ : Env} : fIter F ρ = ((match F ρ with
  | some d => items d
  | none => none)) := (Eq.refl (fIter F ρ)).trans (Eq.refl _)
theorem ev_fRng1 {A : FA} {ρ : Env} : fRng1 A ρ = ((match A ρ with
  | some [.int n] => if okI n = true then some (rngD 0 n.toNat) else none
  | _ => none)) := (Eq.refl (fRng1 A ρ)).trans (Eq.refl _)
theorem ev_fRng2 {A : FA} {ρ : Env} : fRng2 A ρ = ((match A ρ with
  | some [.int m, .int n] => if (okI m && okI n) = true then some (rngD m (n - m).toNat) else none
  | _ => none)) := (Eq.refl (fRng2 A ρ)).trans (Eq.refl _)
theorem ev_fRng3 {A : FA} {ρ : Env} : fRng3 A ρ = ((match A ρ with
  | some [.int m, .int n, .int (-1)] => if (okI m && okI n) = true then some (dwnD m (m - n).toNat) else none
  | _ => none)) := (Eq.refl (fRng3 A ρ)).trans (Eq.refl _)
theorem ev_fLc {L : FA} {vs : List Nat} {g : D → Env → Option Env} {T : FT} {E : F1} {ρ : Env} : fLc L vs g T E ρ = ((match L ρ with
  | some ds => if ds.length ≤ 100000 then fmapO (lcTurn vs g T E ρ) ds else none
  | none => none)) := (Eq.refl (fLc L vs g T E ρ)).trans (Eq.refl _)
theorem ev_gSeq {G1 G2 : FS} {ρ : Env} : gSeq G1 G2 ρ = ((match G1 ρ with
  | .nx ρ' => G2 ρ'
  | o => o)) := (Eq.refl (gSeq G1 G2 ρ)).trans (Eq.refl _)
theorem ev_gRet {F : F1} {ρ : Env} : gRet F ρ = ((match F (frz ρ) with
  | some d => .rt d
  | none => .no)) := (Eq.refl (gRet F ρ)).trans (Eq.refl _)
theorem ev_gIf {B : FT} {G1 G2 : FS} {ρ : Env} : gIf B G1 G2 ρ = ((match B ρ with
  | some true => G1 ρ
  | some false => G2 ρ
  | none => .no)) := (Eq.refl (gIf B G1 G2 ρ)).trans (Eq.refl _)
theorem ev_gSet {i : Nat} {F : F1} {ρ : Env} : gSet i F ρ = ((match F ρ with
  | some d => .nx (ρ.set i (some (.dat d)))
  | none => .no)) := (Eq.refl (gSet i F ρ)).trans (Eq.refl _)
theorem ev_gOwn {i : Nat} {L : FA} {ρ : Env} : gOwn i L ρ = ((match L ρ with
  | some ds => .nx (ρ.set i (some (.own ds)))
  | none => .no)) := (Eq.refl (gOwn i L ρ)).trans (Eq.refl _)
theorem ev_gAsg {f : D → Env → Option Env} {F : F1} {ρ : Env} : gAsg f F ρ = ((match F ρ with
  | some d => match f d ρ with
    | some ρ' => .nx ρ'
    | none => .no
  | none => .no)) := (Eq.refl (gAsg f F ρ)).trans (Eq.refl _)
theorem ev_gPar {i j : Nat} {A : FA} {ρ : Env} : gPar i j A ρ = ((match A ρ with
  | some [a, b] => .nx ((ρ.set i (some (.dat a))).set j (some (.dat b)))
  | _ => .no)) := (Eq.refl (gPar i j A ρ)).trans (Eq.refl _)
theorem ev_gParO {i j : Nat} {L : FA} {F : F1} {ρ : Env} : gParO i j L F ρ = ((match L ρ with
  | some ds => match F ρ with
    | some b => .nx ((ρ.set i (some (.own ds))).set j (some (.dat b)))
    | none => .no
  | none => .no)) := (Eq.refl (gParO i j L F ρ)).trans (Eq.refl _)
theorem ev_gAug {i : Nat} {g : D → D → Option D} {F : F1} {ρ : Env} : gAug i g F ρ = ((match fVar i ρ with
  | some a => match F ρ with
    | some b => match g a b with
      | some z => .nx (ρ.set i (some (.dat z)))
      | none => .no
    | none => .no
  | none => .no)) := (Eq.refl (gAug i g F ρ)).trans (Eq.refl _)
theorem ev_gApp {i : Nat} {F : F1} {ρ : Env} : gApp i F ρ = ((match ρ[i]? with
  | some (some (.own ds)) => match F ρ with
    | some d => if ds.length < 100000 then .nx (ρ.set i (some (.own (ds ++ [d])))) else .no
    | none => .no
  | _ => .no)) := (Eq.refl (gApp i F ρ)).trans (Eq.refl _)
theorem ev_gExt {i : Nat} {L : F1} {ρ : Env} : gExt i L ρ = ((match ρ[i]? with
  | some (some (.own ds)) => match L ρ with
    | some (.list es) => if ds.length + es.length < 100000 then .nx (ρ.set i (some (.own (ds ++ es)))) else .no
    | _ => .no
  | _ => .no)) := (Eq.refl (gExt i L ρ)).trans (Eq.refl _)
theorem ev_gPut {i : Nat} {I F : F1} {ρ : Env} : gPut i I F ρ = ((match ρ[i]? with
  | some (some (.own ds)) => match F ρ with
    | some d => match I ρ with
      | some (.int k) => match ixN ds.length k with
        | some j => .nx (ρ.set i (some (.own (ds.set j d))))
        | none => .no
      | _ => .no
    | none => .no
  | _ => .no)) := (Eq.refl (gPut i I F ρ)).trans (Eq.refl _)
theorem ev_gFor {L : FA} {g : D → Env → Option Env} {B : FS} {ρ : Env} : gFor L g B ρ = ((match L ρ with
  | some ds => loop g B ds ρ
  | none => .no)) := (Eq.refl (gFor L g B ρ)).trans (Eq.refl _)
theorem ev_fSl {F : F1} {L U : FO} {ρ : Env} : fSl F L U ρ = ((match F ρ with
  | some d => match L ρ with
    | some lo => match U ρ with
      | some hi => dSl d lo hi
      | none => none
    | none => none
  | none => none)) := (Eq.refl (fSl F L U ρ)).trans (Eq.refl _)
theorem ev_fPart {F : F1} {ρ : Env} : fPart F ρ = ((match F ρ with
  | some (.int i) => some (some i)
  | _ => none)) := (Eq.refl (fPart F ρ)).trans (Eq.refl _)
theorem ev_fRepL {F : FA} {G : F1} {ρ : Env} : fRepL F G ρ = ((match F ρ with
  | some a => match G ρ with
    | some (.int n) => if a.length * n.toNat ≤ 100000 ∧ n < 2 ^ 62 ∧ -(2 ^ 62) ≤ n then some (List.replicate n.toNat a).flatten else none
    | _ => none
  | none => none)) := (Eq.refl (fRepL F G ρ)).trans (Eq.refl _)
theorem ev_fChain {g h : D → D → Option D} {A B C : F1} {ρ : Env} : fChain g h A B C ρ = ((match A ρ with
  | some a => match B ρ with
    | some b => match g a b with
      | some (.bool true) => match C ρ with
        | some c => h b c
        | none => none
      | some (.bool false) => some (.bool false)
      | _ => none
    | none => none
  | none => none)) := (Eq.refl (fChain g h A B C ρ)).trans (Eq.refl _)
theorem ev_fRgL {F : Env → Option (Int × Int)} {ρ : Env} : fRgL F ρ = ((match F ρ with
  | some (m, n) => if okRg m n = true then some (.list (rngD m (n - m).toNat)) else none
  | none => none)) := (Eq.refl (fRgL F ρ)).trans (Eq.refl _)
theorem ev_fRgT {F : Env → Option (Int × Int)} {ρ : Env} : fRgT F ρ = ((match F ρ with
  | some (m, n) => if okRg m n = true then some (.tuple (rngD m (n - m).toNat)) else none
  | none => none)) := (Eq.refl (fRgT F ρ)).trans (Eq.refl _)
theorem ev_fRg1 {F : F1} {ρ : Env} : fRg1 F ρ = ((match F ρ with
  | some (.int n) => some (0, n)
  | _ => none)) := (Eq.refl (fRg1 F ρ)).trans (Eq.refl _)
theorem ev_fRg2 {F G : F1} {ρ : Env} : fRg2 F G ρ = ((match F ρ with
  | some (.int m) => match G ρ with
    | some (.int n) => some (m, n)
    | _ => none
  | _ => none)) := (Eq.refl (fRg2 F G ρ)).trans (Eq.refl _)
theorem ev_fSortSet {F : F1} {ρ : Env} : fSortSet F ρ = ((match F ρ with
  | some d => dSortSet d
  | none => none)) := (Eq.refl (fSortSet F ρ)).trans (Eq.refl _)
theorem ev_lcTurn {vs : List Nat} {g : D → Env → Option Env} {T : FT} {E : F1} {ρ : Env} {d : D} : lcTurn vs g T E ρ d = (match g d (wipeE ρ vs) with
  | some ρ1 => match T ρ1 with
    | some true => match E ρ1 with
      | some y => some (some y)
      | none => none
    | some false => some none
    | none => none
  | none => none) := (Eq.refl (lcTurn vs g T E ρ d)).trans (Eq.refl _)
theorem ev_loop_nil {g : D → Env → Option Env} {B : FS} {ρ : Env} : loop g B [] ρ = .nx ρ := (Eq.refl (loop g B [] ρ)).trans (Eq.refl _)
theorem ev_loop {g : D → Env → Option Env} {B : FS} {d : D} {ds : List D} {ρ : Env} : loop g B (d :: ds) ρ = (match g d ρ with
    | some ρ1 => match B ρ1 with
      | .nx ρ2 => loop g B ds ρ2
      | .ct ρ2 => loop g B ds ρ2
      | .bk ρ2 => .nx ρ2
      | .rt d => .rt d
      | .no => .no
    | none => .no) := by
  first
  | (rw [loop]; done)
  | (rw [loop]
     cases g d ρ with
     | none => rfl
     | some ρ1 => cases hB : B ρ1 <;> simp only [hB])
theorem ev_while {T : FT} {B : FS} {k : Nat} {ρ : Env} : whileF T B (k + 1) ρ = (match T ρ with
    | some true => match B ρ with
      | .nx ρ2 => whileF T B k ρ2
      | .ct ρ2 => whileF T B k ρ2
      | .bk ρ2 => .nx ρ2
      | .rt d => .rt d
      | .no => .no
    | some false => .nx ρ
    | none => .no) := by
  first
  | (rw [whileF]; done)
  | (rw [whileF]
     cases T ρ with
     | none => rfl
     | some b =>
       cases b with
       | false => rfl
       | true => cases hB : B ρ <;> simp only [hB])
theorem ev_run {n p : Nat} {G : FS} {ds : List D} (h : ds.length = p) : run n p G ds = (match G (startE n ds) with
  | .rt d => some d
  | .nx _ => some .none
  | _ => none) := by
  unfold run
  first
  | (rw [if_pos h]; done)
  | (rw [if_pos h]
     cases G (startE n ds) <;> rfl)
theorem ev_tFrz {B : FT} {ρ : Env} : tFrz B ρ = B (frz ρ) := (Eq.refl (tFrz B ρ)).trans (Eq.refl _)
theorem ev_frz_cons {c : Option Cell} {ρ : Env} : frz (c :: ρ) = Option.map frzC c :: frz ρ := rfl
theorem ev_frz_nil : frz [] = [] := rfl
theorem ev_var0 {d : D} {ρ : Env} : fVar 0 (some (.dat d) :: ρ) = some d := rfl
theorem ev_varS {i : Nat} {c : Option Cell} {ρ : Env} : fVar (i + 1) (c :: ρ) = fVar i ρ := rfl
theorem ev_C {d : D} {ρ : Env} : fC d ρ = some d := rfl
theorem ev_nil {ρ : Env} : fNil ρ = some [] := rfl
theorem ev_yes {ρ : Env} : fYes ρ = some true := rfl
theorem ev_noPart {ρ : Env} : fNoPart ρ = some none := rfl
theorem ev_next {ρ : Env} : gNext ρ = .nx ρ := rfl
theorem ev_break {ρ : Env} : gBreak ρ = .bk ρ := rfl
theorem ev_cont {ρ : Env} : gCont ρ = .ct ρ := rfl
theorem ev_no {ρ : Env} : gNo ρ = .no := rfl
theorem ev_name {i : Nat} {d : D} {ρ : Env} : sName i d ρ = some (ρ.set i (some (.dat d))) := rfl
theorem ev_tup2 {i j : Nat} {a b : D} {ρ : Env} : sTup2 i j (.tuple [a, b]) ρ = some ((ρ.set i (some (.dat a))).set j (some (.dat b))) := rfl
end Wd

set_option Elab.async false
set_option linter.all false
set_option maxRecDepth 100000
set_option maxHeartbeats 4000000
set_option autoImplicit false
/-! Drawing: what may come, as wishes (predicate transformers) over the plain environment. -/
namespace Wd
open PySem PyProof.Rows L2

inductive OutW where
  | nx (ρ : Env)
  | bk (ρ : Env)
  | ct (ρ : Env)
  | rt (d : D) (ρ : Env)
  /-- a list just made is handed back -/
  | rl (ds : List D) (ρ : Env)
def OkW (N : Addr → Prop) (H0 : Hp) (E : Ends) : OutW → Prop
  | .nx ρ => ∀ S H σ, RelS N H0 S H σ ρ → E.nx σ H
  | .bk ρ => ∀ S H σ, RelS N H0 S H σ ρ → E.bk σ H
  | .ct ρ => ∀ S H σ, RelS N H0 S H σ ρ → E.ct σ H
  | .rt d ρ => ∀ S H σ v, RelS N H0 S H σ ρ → Da (cut H S) v d → E.rt v H
  | .rl ds ρ => ∀ S H σ p vs H', RelS N H0 S H σ ρ → Ex H H' → H p = none → H' p = some (.lst vs) → DaAll (cut H' fun a => S a ∨ a = p) vs ds → E.rt (.ref p) H'
abbrev FW := Env → (OutW → Prop) → Prop
def SW (t : TS) (W : FW) : Prop := ∀ (N : Addr → Prop) (H0 : Hp) (S : Addr → Prop) (H : Hp) (σ : L2.St) (ρ : Env) (E : Ends), RelS N H0 S H σ ρ → W ρ (OkW N H0 E) → t E σ H
structure Cv (X : Cx) (st : Stmt) (t : TS) (W : FW) : Prop where
  ps : PS X st t
  so : SW t W
structure Cvs (X : Cx) (st : List Stmt) (t : TS) (W : FW) : Prop where
  ps : PSs X st t
  so : SW t W
/-! expressions that draw -/
def Pinned (ρ : Env) (a : Addr) : Prop := ∃ (i : Nat) (ds : List D), ρ[i]? = some (some (.pin a ds))
/-- what drawing does to the heap: what is pinned may change -/
structure Step (S : Addr → Prop) (ρ ρ' : Env) (H H' : Hp) : Prop where
  cut : Ex (Wd.cut H S) (Wd.cut H' S)
  frame : ∀ a o, ¬ Pinned ρ a → H a = some o → H' a = some o
  pins : ∀ a, Pinned ρ' a → Pinned ρ a
theorem Step.of {S : Addr → Prop} {ρ : Env} {H H' : Hp} (x : Ex H H') : Step S ρ ρ H H' := ⟨cut_mono x, fun a o _ e => x a o e, fun _ z => z⟩
theorem Step.trans {S : Addr → Prop} {ρ ρ1 ρ2 : Env} {H H1 H2 : Hp} (x : Step S ρ ρ1 H H1) (y : Step S ρ1 ρ2 H1 H2) : Step S ρ ρ2 H H2 :=
  ⟨x.cut.trans y.cut, fun a o n e => y.frame a o (fun z => n (x.pins a z)) (x.frame a o n e), fun a z => x.pins a (y.pins a z)⟩
theorem Step.ex {S : Addr → Prop} {ρ ρ1 : Env} {H H1 H2 : Hp} (x : Step S ρ ρ1 H H1) (y : Ex H1 H2) : Step S ρ ρ1 H H2 := x.trans (.of y)
abbrev EW := Env → (D → Env → Prop) → Prop
abbrev AW := Env → (List D → Env → Prop) → Prop
def SEw (te : TE) (W : EW) : Prop := ∀ (N : Addr → Prop) (H0 : Hp) (S : Addr → Prop) (H : Hp) (σ : L2.St) (ρ : Env) (Φ : D → Env → Prop), RelS N H0 S H σ ρ → W ρ Φ → ∀ Q : VK, (∀ v H' d ρ', RelS N H0 S H' σ ρ' → Step S ρ ρ' H H' → Da (cut H' S) v d → Φ d ρ' → Q v H') → te σ H Q
def SAw (ta : TA) (W : AW) : Prop := ∀ (N : Addr → Prop) (H0 : Hp) (S : Addr → Prop) (H : Hp) (σ : L2.St) (ρ : Env) (Φ : List D → Env → Prop), RelS N H0 S H σ ρ → W ρ Φ → ∀ Q : List V → Hp → Prop, (∀ vs H' ds ρ', RelS N H0 S H' σ ρ' → Step S ρ ρ' H H' → DaAll (cut H' S) vs ds → Φ ds ρ' → Q vs H') → ta σ H Q
structure Ew (X : Cx) (e : Expr) (t : TE) (W : EW) : Prop where
  pe : PE X e t
  so : SEw t W
structure Aw (X : Cx) (es : List Expr) (t : TA) (W : AW) : Prop where
  pa : PA X es t
  so : SAw t W
def wL (F : F1) : EW := fun ρ Φ => ∃ d, F ρ = some d ∧ Φ d ρ
def wLA (A : FA) : AW := fun ρ Φ => ∃ ds, A ρ = some ds ∧ Φ ds ρ
def wBin (g : D → D → Option D) (A B : EW) : EW := fun ρ Φ => A ρ fun a ρ1 => B ρ1 fun b ρ2 => ∃ z, g a b = some z ∧ Φ z ρ2
def wCons (A : EW) (L : AW) : AW := fun ρ Φ => A ρ fun a ρ1 => L ρ1 fun as ρ2 => Φ (a :: as) ρ2
def wTup (L : AW) : EW := fun ρ Φ => L ρ fun as ρ1 => as.length ≤ 100000 ∧ Φ (.tuple as) ρ1
def wApp (g : List D → Option D) (L : AW) : EW := fun ρ Φ => L ρ fun as ρ1 => ∃ z, g as = some z ∧ Φ z ρ1
section
variable {X : Cx} {a b e : Expr} {es : List Expr} {ta tb te : TE} {t : TA} {F : F1} {A : FA} {Wa Wb W : EW} {L : AW} {pos : Pos}
theorem sew_lift (h : SE te F) : SEw te (wL F) := fun N H0 S H σ ρ Φ R ⟨d, e, k⟩ Q q => h N S H σ ρ d R.e e Q fun v H1 x1 o1 => q v H1 d ρ (R.mono x1) (.of x1) o1 k
theorem ew_lift (h : Ce X e te F) : Ew X e te (wL F) := ⟨h.pe, sew_lift h.so⟩
theorem saw_lift (h : SA t A) : SAw t (wLA A) := fun N H0 S H σ ρ Φ R ⟨d, e, k⟩ Q q => h N S H σ ρ d R.e e Q fun v H1 x1 o1 => q v H1 d ρ (R.mono x1) (.of x1) o1 k
theorem aw_lift (h : Ca X es t A) : Aw X es t (wLA A) := ⟨h.pa, saw_lift h.so⟩
theorem sew_op {r : R2} {g : D → D → Option D} (hr : RD2 r g) (ha : SEw ta Wa) (hb : SEw tb Wb) : SEw (tOp r ta tb) (wBin g Wa Wb) := fun N H0 S H σ ρ Φ R k Q q => by
  refine ha N H0 S H σ ρ _ R k _ fun v1 H1 d1 ρ1 R1 x1 o1 k1 => ?_
  refine hb N H0 S H1 σ ρ1 _ R1 k1 _ fun v2 H2 d2 ρ2 R2 x2 o2 ⟨z, ez, kz⟩ => ?_
  exact hr S H2 v1 v2 d1 d2 z R2.e.al (Da.mono x2.cut _ _ o1) o2 ez Q fun v H3 x3 o3 => q v H3 z ρ2 (R2.mono x3) ((x1.trans x2).ex x3) o3 kz
theorem ew_op {op : Operator} {r : R2} {g : D → D → Option D} (ho : OpR X (binaryOp op) r) (hr : RD2 r g) (ha : Ew X a ta Wa) (hb : Ew X b tb Wb) : Ew X (.BinOp a op b pos) (tOp r ta tb) (wBin g Wa Wb) := ⟨pe_op ho ha.pe hb.pe, sew_op hr ha.so hb.so⟩
theorem ew_cmp {op : CmpOp} {r : R2} {g : D → D → Option D} (ho : OpR X (compareOp op) r) (hr : RD2 r g) (ha : Ew X a ta Wa) (hb : Ew X b tb Wb) (hm : behindInMarks op b = false := by first | exact nomark _ | rfl | with_unfolding_all rfl) : Ew X (.Compare a [op] [b] pos) (tOp r ta tb) (wBin g Wa Wb) := ⟨pe_cmpR ho ha.pe hb.pe hm, sew_op hr ha.so hb.so⟩
theorem ew_ix {r : R2} {g : D → D → Option D} (ho : IxR X r) (hr : RD2 r g) (ha : Ew X a ta Wa) (hb : Ew X b tb Wb) (hs : PlainIx b := by exact fun _ _ => rfl) : Ew X (.Subscript a b pos) (tOp r ta tb) (wBin g Wa Wb) := ⟨pe_ix ho ha.pe hb.pe hs, sew_op hr ha.so hb.so⟩
theorem aw_nil : Aw X [] tNil (wLA fNil) := aw_lift ca_nil
theorem aw_cons (ha : Ew X e te W) (hr : Aw X es t L) (hs : starEach (e :: es) X.env = (false, eval e X.env) :: starEach es X.env := by rfl) : Aw X (e :: es) (tCons te t) (wCons W L) := ⟨pa_cons ha.pe hr.pa hs, fun N H0 S H σ ρ Φ R k Q q => by
  refine ha.so N H0 S H σ ρ _ R k _ fun v1 H1 d1 ρ1 R1 x1 o1 k1 => ?_
  refine hr.so N H0 S H1 σ ρ1 _ R1 k1 _ fun vs H2 ds ρ2 R2 x2 o2 k2 => ?_
  exact q _ H2 _ ρ2 R2 (x1.trans x2) (.cons (Da.mono x2.cut _ _ o1) o2) k2⟩
theorem ew_tup {k : Nat} (h : Aw X es t L) : Ew X (.Tuple es k pos) (tTup t) (wTup L) := ⟨pe_tup h.pa, fun N H0 S H σ ρ Φ R k Q q => by
  refine h.so N H0 S H σ ρ _ R k _ fun vs H1 ds ρ1 R1 x1 o1 ⟨hl, k1⟩ => ⟨sz_of (by rw [o1.length]; exact hl), fun p hp => ?_⟩
  have x2 : Ex H1 (upd H1 p (.tup vs)) := Evl.Ex.new hp
  exact q _ _ _ ρ1 (R1.mono x2) (x1.ex x2) (.tup (cut_of (R1.e.al.there hp) upd_same) (DaAll.mono (cut_mono x2) _ _ o1)) k1⟩
theorem sew_app {r : List V → Hp → VK → Prop} {g : List D → Option D} (hr : RDc r g) (ha : SAw t L) : SEw (tCB r t) (wApp g L) := fun N H0 S H σ ρ Φ R k Q q => by
  refine ha N H0 S H σ ρ _ R k _ fun vs H1 ds ρ1 R1 x1 o1 ⟨z, ez, kz⟩ => ?_
  exact hr S H1 vs ds z R1.e.al o1 ez Q fun v H2 x2 o2 => q v H2 z ρ1 (R1.mono x2) (x1.ex x2) o2 kz
theorem sew_call {g : List D → Option D} {E : XK} (ha : SAw t L) : SEw (tCall (spD g) [] E t) (wApp g L) := fun N H0 S H σ ρ Φ R k Q q => by
  refine ha N H0 S H σ ρ _ R k _ fun vs H1 ds ρ1 R1 x1 o1 ⟨z, ez, kz⟩ => ?_
  rw [List.append_nil]
  exact ⟨S, ds, z, R1.e.al, o1, ez, fun v H2 x2 o2 => q v H2 z ρ1 (R1.mono x2) (x1.ex x2) o2 kz⟩
theorem ew_callC {g : List D → Option D} {j k : Nat} {x : Str} {p : Pos} (C : Cal X.prog X.w X.K X.mg X.base x k g) (hr : Room j X.A) (ha : Aw X (e :: es) t L) (hj : k ≤ j := by decide) (hg : Gl X x := by rfl)
    (hdb : (x == ("__debug__" : Str)) = false := by decide) (he : starEach (e :: es) X.env = (false, eval e X.env) :: starEach es X.env := by rfl) (hpl : (backTo pos (starEach es X.env)).any (·.1) = false := by rfl) :
    Ew X (.Call (.Name x p) (e :: es) [] pos) (tCall (spD g) [] E0 t) (wApp g L) := by
  obtain ⟨f, fd, ps, F, hm, hk, hb⟩ := C
  exact ⟨pe_call F (hr.mono hj) hg hm hk hb .nil pass0 ha.pa hdb he hpl, sew_call ha.so⟩
theorem ew_int1 {p : Pos} (T : Bt X.mg) (ha : Aw X [e] t L) (hg : Gl X "int" := by rfl) (he : starEach [e] X.env = (false, eval e X.env) :: starEach [] X.env := by rfl) : Ew X (.Call (.Name "int" p) [e] [] pos) (tCB rInt1 t) (wApp dInt L) := ⟨pe_callTy call_int1 hg T.int (by decide +kernel) ha.pa (by decide) (by decide) he rfl, sew_app rd_int ha.so⟩
theorem ew_tuple1K {K : PySem.W.Frag} {p : Pos} (hK : X.K = K) (T : Bt X.mg) (ha : Aw X [e] t L) (hg : Gl X "tuple" := by rfl) (he : starEach [e] X.env = (false, eval e X.env) :: starEach [] X.env := by rfl) : Ew X (.Call (.Name "tuple" p) [e] [] pos) (tCB (rTuple1 K) t) (wApp dTuple L) := by
  subst hK
  exact ⟨pe_callTy call_tuple_of hg T.tuple (by decide +kernel) ha.pa (by decide) (by decide) he rfl, sew_app rd_tuple ha.so⟩
end

/-! ### the pool's defs -/
/-- what a list of drawn numbers looks like -/
def PoolOk (ds : List D) : Prop := ∃ (cells : List Int) (a b c s : Int), ds = [.list (cells.map .int), .int a, .int b, .int c, .int s] ∧ 0 ≤ a ∧ cells.length ≤ 100000
abbrev PR := List D → (D → Prop) → Prop
def spP (R : PR) : Sp := fun vs H Q _ => ∃ (S : Addr → Prop) (p : Addr) (pv : List V) (pds : List D) (avs : List V) (ds : List D) (Φ : D → Prop), vs = .ref p :: avs ∧ Alive S H ∧ S p ∧ H p = some (.lst pv) ∧ DaAll (cut H S) pv pds ∧ PoolOk pds ∧ DaAll (cut H S) avs ds ∧ R ds Φ ∧
  ∀ (v : V) (H' : Hp) (pv' : List V) (pds' : List D) (d : D), (∀ a o, a ≠ p → H a = some o → H' a = some o) → H' p = some (.lst pv') → DaAll (cut H' S) pv' pds' → PoolOk pds' → Da (cut H' S) v d → Φ d → Q v H'
def Cap (P : Program) (w : World) (K : PySem.W.Frag) (mg : Str → Option Value) (base : Heap) (x : Str) (k : Nat) (R : PR) : Prop :=
  ∃ (f : Addr) (fd : FuncData) (ps : List Str), FnOk P w K mg base CX0 k f fd ps (spP R) ∧ mg x = some (.ref f) ∧ PySem.W.keepIn K (.ref f) = true ∧ Binds K fd ps []
/-- a draw: the pool stands in slot i -/
def wPool (i : Nat) (R : PR) (A : FA) : EW := fun ρ Φ => ∃ (p : Addr) (pds ds : List D), ρ[i]? = some (some (.pin p pds)) ∧ PoolOk pds ∧ A ρ = some ds ∧ R ds fun d => ∀ pds', PoolOk pds' → Φ d (ρ.set i (some (.pin p pds')))
section
variable {X : Cx} {a b e : Expr} {es : List Expr} {te : TE} {t : TA} {A : FA} {pos : Pos}
theorem ex_cut_but {S : Addr → Prop} {H H' : Hp} {p : Addr} (sp : S p) (h : ∀ a o, a ≠ p → H a = some o → H' a = some o) : Ex (cut H S) (cut H' S) := fun a o q => by
  obtain ⟨q1, q2⟩ := cut_some q
  exact cut_of q1 (h a o (fun z => q1 (z ▸ sp)) q2)
theorem sew_pool {i : Nat} {R : PR} {E : XK} (ha : SA t A) : SEw (tCall (spP R) [] E (tCons (tVar i) t)) (wPool i R A) := fun N H0 S H σ ρ Φ R0 ⟨p, pds, ds, ei, po, ea, kR⟩ Q q => by
  obtain ⟨v, sv, pv, ev, sp, np, hp, hd⟩ := R0.e.cell i _ ei
  subst ev
  refine ⟨.ref p, sv, ?_⟩
  refine ha N S H σ ρ ds R0.e ea _ fun vs H1 x1 o1 => ?_
  show spP R ((V.ref p :: vs) ++ []) H1 Q E
  rw [List.append_nil]
  have R1 := R0.mono x1
  refine ⟨S, p, pv, pds, vs, ds, _, rfl, R1.e.al, sp, x1 _ _ hp, DaAll.mono (cut_mono x1) _ _ hd, po, o1, kR, fun v H2 pv' pds' d hH hp' hd' po' o2 kΦ => ?_⟩
  have hset : ∀ a, Pinned (ρ.set i (some (.pin p pds'))) a → Pinned ρ a := fun a ⟨j, es, ej⟩ => by
    by_cases z : i = j
    · subst z
      have hi : i < ρ.length := (List.getElem?_eq_some_iff.mp ei).1
      rw [List.getElem?_set_self hi] at ej
      have e1 := Option.some.inj (Option.some.inj ej)
      injection e1 with e2 e3
      subst e2
      exact ⟨i, pds, ei⟩
    · rw [List.getElem?_set_ne z] at ej
      exact ⟨j, es, ej⟩
  refine q v H2 d _ ⟨R1.e.putC (c1 := .pin p pds') ei rfl sv sp hH hp' ⟨pv', rfl, sp, np, hp', hd'⟩, fun b o z => ?_, R1.new⟩ ⟨(cut_mono x1).trans (ex_cut_but sp hH), fun a o n e => hH a o (fun z => n (z ▸ ⟨i, pds, ei⟩)) (x1 a o e), hset⟩ o2 (kΦ pds' po')
  refine hH b o (fun y => ?_) (R1.ex b o z)
  rw [y, R1.new p sp np] at z
  cases z
theorem ew_pool {i : Nat} {R : PR} {j k : Nat} {x y : Str} {p p1 : Pos} (C : Cap X.prog X.w X.K X.mg X.base x k R) (hr : Room j X.A) (ha : Ca X es t A) (hN : X.N[i]? = some y := by rfl) (hv : Vis X.env.scope y := by first | exact Or.inl rfl | exact Or.inr (Or.inl rfl) | exact Or.inr (Or.inr rfl)) (h1 : (y == ("__debug__" : Str)) = false := by decide) (h2 : (y == ("__classdict__" : Str)) = false := by decide)
    (hj : k ≤ j := by decide) (hg : Gl X x := by rfl) (hdb : (x == ("__debug__" : Str)) = false := by decide) (he : starEach (.Name y p1 :: es) X.env = (false, eval (.Name y p1) X.env) :: starEach es X.env := by rfl) (hpl : (backTo pos (starEach es X.env)).any (·.1) = false := by rfl) :
    Ew X (.Call (.Name x p) (.Name y p1 :: es) [] pos) (tCall (spP R) [] E0 (tCons (tVar i) t)) (wPool i R A) := by
  obtain ⟨f, fd, ps, F, hm, hk, hb⟩ := C
  exact ⟨pe_call F (hr.mono hj) hg hm hk hb .nil pass0 (pa_cons (pe_var hN hv h1 h2) ha.pa he) hdb he hpl, sew_pool ha.so⟩
end

/-! ### statements -/
def wNx : FW := fun ρ P => P (.nx ρ)
def wSeq (A B : FW) : FW := fun ρ P => A ρ fun o => match o with
  | .nx ρ' => B ρ' P
  | o => P o
def wLift (G : FS) : FW := fun ρ P => match G ρ with
  | .nx ρ' => P (.nx ρ')
  | .bk ρ' => P (.bk ρ')
  | .ct ρ' => P (.ct ρ')
  | _ => False
def wIf (B : FT) (A C : FW) : FW := fun ρ P => match B ρ with
  | some true => A ρ P
  | some false => C ρ P
  | none => False
def wSet (i : Nat) (W : EW) : FW := fun ρ P => W ρ fun d ρ' => P (.nx (ρ'.set i (some (.dat d))))
def wAsg (f : D → Env → Option Env) (W : EW) : FW := fun ρ P => W ρ fun d ρ' => ∃ ρ2, f d ρ' = some ρ2 ∧ P (.nx ρ2)
def wPar (i j : Nat) (W : AW) : FW := fun ρ P => W ρ fun ds ρ' => ∃ a b, ds = [a, b] ∧ P (.nx ((ρ'.set i (some (.dat a))).set j (some (.dat b))))
def wRet (W : EW) : FW := fun ρ P => W ρ fun d ρ' => P (.rt d ρ')
def wRl (L : FA) : FW := fun ρ P => ∃ ds, L ρ = some ds ∧ P (.rl ds ρ)
def wloop (f : D → Env → Option Env) (B : FW) : List D → FW
  | [], ρ, P => P (.nx ρ)
  | d :: ds, ρ, P => ∃ ρ1, f d ρ = some ρ1 ∧ B ρ1 fun o => match o with
    | .nx ρ2 => wloop f B ds ρ2 P
    | .ct ρ2 => wloop f B ds ρ2 P
    | .bk ρ2 => P (.nx ρ2)
    | o => P o
def wFor (L : FA) (f : D → Env → Option Env) (B : FW) : FW := fun ρ P => ∃ ds, L ρ = some ds ∧ wloop f B ds ρ P
/-- a wish that is helped by more -/
def Mono (W : FW) : Prop := ∀ ρ (P P' : OutW → Prop), (∀ o, P o → P' o) → W ρ P → W ρ P'
section
variable {X : Cx} {st : Stmt} {rest : List Stmt} {t u : TS} {e c : Expr} {te : TE} {ta : TA} {tt : TT} {pos pos' : Pos} {B : FT} {G : FS} {W W2 : FW} {We : EW} {WA : AW} {L : FA}
theorem sw_lift (h : SS t G) : SW t (wLift G) := fun N H0 S H σ ρ E R k => by
  refine h N H0 S H σ ρ E R ?_
  unfold wLift at k
  cases q : G ρ with
  | nx ρ' => rw [q] at k; exact k
  | bk ρ' => rw [q] at k; exact k
  | ct ρ' => rw [q] at k; exact k
  | rt d => rw [q] at k; exact k.elim
  | no => rw [q] at k; exact k.elim
theorem cv_lift (h : Cs X st t G) : Cv X st t (wLift G) := ⟨h.ps, sw_lift h.so⟩
theorem cvs_nil : Cvs X [] tNext wNx := ⟨pss_nil, fun N H0 S H σ ρ E R k => k S H σ R⟩
theorem cvs_one (h : Cv X st t W) : Cvs X [st] t W := ⟨pss_one h.ps, h.so⟩
theorem sw_seq (m : Mono W) (h1 : SW t W) (h2 : SW u W2) : SW (tSeq t u) (wSeq W W2) := fun N H0 S H σ ρ E R k => by
  refine h1 N H0 S H σ ρ _ R (m ρ _ _ (fun o q => ?_) k)
  cases o with
  | nx ρ' => exact fun S' H' σ' R' => h2 N H0 S' H' σ' ρ' E R' q
  | bk ρ' => exact q
  | ct ρ' => exact q
  | rt d ρ' => exact q
  | rl ds ρ' => exact q
theorem cvs_cons (m : Mono W) (h1 : Cv X st t W) (h2 : Cvs X rest u W2) : Cvs X (st :: rest) (tSeq t u) (wSeq W W2) := ⟨pss_cons h1.ps h2.ps, sw_seq m h1.so h2.so⟩
theorem cv_if {a b : List Stmt} (hc : Ct X c tt B) (ha : Cvs X a t W) (hb : Cvs X b u W2) : Cv X (.If c a b pos) (tIfS tt t u) (wIf B W W2) := ⟨ps_if hc.pt ha.ps hb.ps, fun N H0 S H σ ρ E R k => by
  unfold wIf at k
  split at k
  · rename_i e1
    exact hc.so N S H σ ρ _ R.e e1 _ fun H1 x1 => iteT (ha.so N H0 S H1 σ ρ E (R.mono x1) k)
  · rename_i e1
    exact hc.so N S H σ ρ _ R.e e1 _ fun H1 x1 => iteF (hb.so N H0 S H1 σ ρ E (R.mono x1) k)
  · exact k.elim⟩
theorem cv_set {i : Nat} {x : Str} (hN : X.N.Nodup) (he : Ew X e te We) (hi : X.N[i]? = some x := by rfl) (hx : Loc X.env.scope x := by first | exact Or.inl rfl | exact Or.inr rfl) (hs : swapsWith e (some (.Name x pos')) pos.line X.env = pure false := by rfl) (hf : X.fn x = true ∨ X.env.scope.names.lookup x = some .local := by first | exact .inl rfl | exact .inr rfl) :
    Cv X (.Assign [.Name x pos'] e pos) (tAsg te (gName i)) (wSet i We) := ⟨ps_set hN hi hx he.pe hs hf, fun N H0 S H σ ρ E R k => he.so N H0 S H σ ρ _ R k _ fun v H1 d ρ' R' x1 o1 k1 => k1 S H1 _ ⟨R'.e.set o1, R'.ex, R'.new⟩⟩
theorem cv_asg {tg : Expr} {g : TG} {f : D → Env → Option Env} (he : Ew X e te We) (hg : Cg X tg g f) (hs : swapsWithSole [tg] e pos.line X.env = pure false := by rfl) (hw : swappedStores [tg] e X.env = pure none := by rfl)
    (h1 : (assignEach [tg] X.env).map (·.2) = [assign tg X.env] := by rfl) : Cv X (.Assign [tg] e pos) (tAsg te g) (wAsg f We) := ⟨ps_asg he.pe hg.pg hs hw h1, fun N H0 S H σ ρ E R k =>
    he.so N H0 S H σ ρ _ R k _ fun v H1 d ρ' R' x1 o1 ⟨ρ2, e2, k2⟩ => hg.so N S H1 σ ρ' ρ2 v d R'.e o1 e2 _ fun σ' R2 => k2 S H1 σ' ⟨R2, R'.ex, R'.new⟩⟩
theorem cv_par {i j : Nat} {x y : Str} {a b : Expr} {px py pt : Pos} {kt k2 : Nat} {pt2 : Pos} (hc : X.calm = true) (hN : X.N.Nodup) (ha : Aw X [a, b] ta WA) (hi : X.N[i]? = some x := by rfl) (hj : X.N[j]? = some y := by rfl) (hij : i ≠ j := by decide)
    (hx : X.env.scope.names.lookup x = some .local := by rfl) (hy : X.env.scope.names.lookup y = some .local := by rfl)
    (hw : swappedStores [.Tuple [.Name x px, .Name y py] kt pt] (.Tuple [a, b] k2 pt2) X.env = pure (some [x, y]) := by rfl)
    (hs : swapsWithSole [.Tuple [.Name x px, .Name y py] kt pt] (.Tuple [a, b] k2 pt2) pos.line X.env = pure false := by rfl) :
    Cv X (.Assign [.Tuple [.Name x px, .Name y py] kt pt] (.Tuple [a, b] k2 pt2) pos) (tPar i j ta) (wPar i j WA) := ⟨ps_par hc hN hi hj hij hx hy ha.pa hw hs, fun N H0 S H σ ρ E R k => by
    refine ha.so N H0 S H σ ρ _ R k _ fun vs H1 ds ρ' R' x1 o1 ⟨a, b, e, k1⟩ => ?_
    subst e
    cases o1 with
    | cons h1 h2 =>
      cases h2 with
      | cons h2 h3 =>
        cases h3
        exact ⟨_, _, rfl, k1 S H1 _ ⟨(R'.e.set h1).set h2, R'.ex, R'.new⟩⟩⟩
theorem cv_ret (h : Ew X e te We) : Cv X (.Return (some e) pos) (tRet te) (wRet We) := ⟨ps_ret h.pe, fun N H0 S H σ ρ E R k => h.so N H0 S H σ ρ _ R k _ fun v H1 d ρ' R' x1 o1 k1 => k1 S H1 σ v R' o1⟩
theorem cv_retL (h : Cl X e te L) : Cv X (.Return (some e) pos) (tRet te) (wRl L) := ⟨ps_ret h.pe, fun N H0 S H σ ρ E R ⟨ds, e1, k⟩ => h.so N S H σ ρ ds R.e e1 _ fun p vs H1 x1 hp h1 o1 => k S H σ p vs H1 R x1 hp h1 o1⟩
theorem mono_lift {G : FS} : Mono (wLift G) := fun ρ P P' h k => by
  unfold wLift at k ⊢
  split at k
  · exact h _ k
  · exact h _ k
  · exact h _ k
  · exact k.elim
theorem mono_nx : Mono wNx := fun ρ P P' h k => h _ k
theorem mono_seq (m1 : Mono W) (m2 : Mono W2) : Mono (wSeq W W2) := fun ρ P P' h k => m1 ρ _ _ (fun o q => by
  cases o with
  | nx ρ' => exact m2 ρ' _ _ h q
  | bk ρ' => exact h _ q
  | ct ρ' => exact h _ q
  | rt d ρ' => exact h _ q
  | rl ds ρ' => exact h _ q) k
theorem mono_if {B : FT} (m1 : Mono W) (m2 : Mono W2) : Mono (wIf B W W2) := fun ρ P P' h k => by
  unfold wIf at k ⊢
  split at k
  · exact m1 ρ _ _ h k
  · exact m2 ρ _ _ h k
  · exact k.elim
def MonoE (W : EW) : Prop := ∀ ρ (P P' : D → Env → Prop), (∀ d ρ', P d ρ' → P' d ρ') → W ρ P → W ρ P'
def MonoA (W : AW) : Prop := ∀ ρ (P P' : List D → Env → Prop), (∀ d ρ', P d ρ' → P' d ρ') → W ρ P → W ρ P'
def MonoR (R : PR) : Prop := ∀ ds (P P' : D → Prop), (∀ d, P d → P' d) → R ds P → R ds P'
theorem monoE_lift {F : F1} : MonoE (wL F) := fun ρ P P' h ⟨d, e, k⟩ => ⟨d, e, h _ _ k⟩
theorem monoA_lift {A : FA} : MonoA (wLA A) := fun ρ P P' h ⟨d, e, k⟩ => ⟨d, e, h _ _ k⟩
theorem monoE_bin {g : D → D → Option D} {A B : EW} (m1 : MonoE A) (m2 : MonoE B) : MonoE (wBin g A B) := fun ρ P P' h k => m1 ρ _ _ (fun a ρ1 q => m2 ρ1 _ _ (fun b ρ2 ⟨z, e, q⟩ => ⟨z, e, h _ _ q⟩) q) k
theorem monoA_cons {A : EW} {L : AW} (m1 : MonoE A) (m2 : MonoA L) : MonoA (wCons A L) := fun ρ P P' h k => m1 ρ _ _ (fun a ρ1 q => m2 ρ1 _ _ (fun b ρ2 q => h _ _ q) q) k
theorem monoE_tup {L : AW} (m : MonoA L) : MonoE (wTup L) := fun ρ P P' h k => m ρ _ _ (fun a ρ1 ⟨e, q⟩ => ⟨e, h _ _ q⟩) k
theorem monoE_app {g : List D → Option D} {L : AW} (m : MonoA L) : MonoE (wApp g L) := fun ρ P P' h k => m ρ _ _ (fun a ρ1 ⟨z, e, q⟩ => ⟨z, e, h _ _ q⟩) k
theorem monoE_pool {i : Nat} {R : PR} {A : FA} (m : MonoR R) : MonoE (wPool i R A) := fun ρ P P' h ⟨p, pds, ds, e1, e2, e3, k⟩ => ⟨p, pds, ds, e1, e2, e3, m ds _ _ (fun d q pds' po => h _ _ (q pds' po)) k⟩
theorem mono_set {i : Nat} {W : EW} (m : MonoE W) : Mono (wSet i W) := fun ρ P P' h k => m ρ _ _ (fun d ρ' q => h _ q) k
theorem mono_asg {f : D → Env → Option Env} {W : EW} (m : MonoE W) : Mono (wAsg f W) := fun ρ P P' h k => m ρ _ _ (fun d ρ' ⟨ρ2, e, q⟩ => ⟨ρ2, e, h _ q⟩) k
theorem mono_par {i j : Nat} {W : AW} (m : MonoA W) : Mono (wPar i j W) := fun ρ P P' h k => m ρ _ _ (fun d ρ' ⟨a, b, e, q⟩ => ⟨a, b, e, h _ q⟩) k
theorem mono_ret {W : EW} (m : MonoE W) : Mono (wRet W) := fun ρ P P' h k => m ρ _ _ (fun d ρ' q => h _ q) k
theorem mono_rl {L : FA} : Mono (wRl L) := fun ρ P P' h ⟨ds, e, k⟩ => ⟨ds, e, h _ k⟩
theorem mono_loop {f : D → Env → Option Env} {B : FW} (m : Mono B) : ∀ (ds : List D) (ρ : Env) (P P' : OutW → Prop), (∀ o, P o → P' o) → wloop f B ds ρ P → wloop f B ds ρ P'
  | [], ρ, P, P', h, k => h _ k
  | d :: ds, ρ, P, P', h, ⟨ρ1, e, k⟩ => ⟨ρ1, e, m ρ1 _ _ (fun o q => by
    cases o with
    | nx ρ2 => exact mono_loop m ds ρ2 P P' h q
    | ct ρ2 => exact mono_loop m ds ρ2 P P' h q
    | bk ρ2 => exact h _ q
    | rt d ρ2 => exact h _ q
    | rl d ρ2 => exact h _ q) k⟩
theorem mono_for {L : FA} {f : D → Env → Option Env} {B : FW} (m : Mono B) : Mono (wFor L f B) := fun ρ P P' h ⟨ds, e, k⟩ => ⟨ds, e, mono_loop m ds ρ P P' h k⟩
end
theorem OkW.back {N : Addr → Prop} {H0 H1 : Hp} {E : Ends} {o : OutW} (x : Ex H0 H1) (h : OkW N H0 E o) : OkW N H1 E o := by
  cases o with
  | nx ρ => exact fun S H σ R => h S H σ (R.back x)
  | bk ρ => exact fun S H σ R => h S H σ (R.back x)
  | ct ρ => exact fun S H σ R => h S H σ (R.back x)
  | rt d ρ => exact fun S H σ v R => h S H σ v (R.back x)
  | rl d ρ => exact fun S H σ p vs H' R => h S H σ p vs H' (R.back x)
section
variable {X : Cx} {tg iter : Expr} {body : List Stmt} {wi : TI} {g : TG} {tb : TS} {pos : Pos} {L : FA} {f : D → Env → Option Env} {B : FW}
theorem sw_for (m : Mono B) (hi : SI wi L) (hg : SG g f) (hb : SW tb B) : SW (tFor wi g tb) (wFor L f B) := fun N H0 S H σ ρ E R ⟨ds, e1, k⟩ => by
  refine hi N S H σ ρ ds R.e e1 _ fun J H1 xs x1 o1 yl => ?_
  have R1 : RelS N H0 S H1 σ ρ := R.mono x1
  have hxl := o1.length
  have k1 : wloop f B ds ρ (OkW N (plain N S H1) E) := mono_loop m ds ρ _ _ (fun o q => q.back R1.base) k
  refine ⟨fun i m σ' H' => m = xs.length - i ∧ i ≤ xs.length ∧ ∃ (S' : Addr → Prop) (ρ' : Env), RelS N (plain N S H1) S' H' σ' ρ' ∧ wloop f B (ds.drop i) ρ' (OkW N (plain N S H1) E), ⟨xs.length, by simp, Nat.zero_le _, S, ρ, R1.rebase, k1⟩, ?_⟩
  rintro i mm σ' H' ⟨rfl, hile, S', ρ', R', k'⟩
  have xc : Ex (cut H1 S) (cut H' S') := R'.stays R.e.sub
  obtain ⟨ygo, yst⟩ := yl H' (xc.trans cut_ex)
  by_cases hlt : i < xs.length
  · obtain ⟨x, hx⟩ : ∃ x, xs[i]? = some x := ⟨xs[i], List.getElem?_eq_getElem hlt⟩
    obtain ⟨g1, g2⟩ := ygo i x hx
    have hdl : i < ds.length := by rw [← hxl]; exact hlt
    have hdd : ds.drop i = ds[i] :: ds.drop (i + 1) := List.drop_eq_getElem_cons hdl
    have hdi : ds[i]? = some ds[i] := List.getElem?_eq_getElem hdl
    obtain ⟨x', hx', ox⟩ := o1.get hdi
    rw [hx] at hx'
    obtain rfl := Option.some.inj hx'
    rw [hdd] at k'
    obtain ⟨ρ1, eg, kb⟩ := k'
    refine .inr ⟨g1, fun σ2 H2 => ∃ (S2 : Addr → Prop) (ρ2 : Env), RelS N (plain N S H1) S2 H2 σ2 ρ2 ∧ wloop f B (ds.drop (i + 1)) ρ2 (OkW N (plain N S H1) E), fun σ2 H2 ⟨S2, ρ2, r1, r2⟩ => ⟨xs.length - (i + 1), by omega, rfl, hlt, S2, ρ2, r1, r2⟩, fun x'' H'' hy => ?_⟩
    obtain ⟨rfl, rfl⟩ := g2 x'' H'' hy
    refine hg N S' H'' σ' ρ' ρ1 _ _ R'.e (Da.mono xc _ _ ox) eg _ fun σ1 R2 => ?_
    refine hb N (plain N S H1) S' H'' σ1 ρ1 _ ⟨R2, R'.ex, R'.new⟩ (m ρ1 _ _ (fun o q => ?_) kb)
    cases o with
    | nx ρ2 => exact fun S3 H3 σ3 R3 => ⟨S3, ρ2, R3, q⟩
    | ct ρ2 => exact fun S3 H3 σ3 R3 => ⟨S3, ρ2, R3, q⟩
    | bk ρ2 => exact q
    | rt d ρ2 => exact q
    | rl d ρ2 => exact q
  · refine .inl ⟨yst i (by omega), ?_⟩
    rw [List.drop_eq_nil_of_le (by omega)] at k'
    exact k' S' H' σ' R'
theorem cv_for (m : Mono B) (hc : X.calm = true) (hp : PassesOwn (model X.prog X.w) X.A X.env X.xe) (hi : Ci X tg iter wi L) (hg : Cg X tg g f) (hb : Cvs X body tb B) (hs : ∀ x, foldedSetIterable iter X.env x = pure x := by intro _; rfl) : Cv X (.For tg iter body [] pos) (tFor wi g tb) (wFor L f B) :=
  ⟨ps_for hp hc hi.pi hg.pg hb.ps hs, sw_for m hi.so hg.so hb.so⟩
end

/-! ### a def that draws -/
theorem start_at {M : List Str} {vs : List V} {i : Nat} {v : V} (h : vs[i]? = some v) : (L2.start M vs)[i]? = some (some v) := by
  unfold L2.start
  have hi := (List.getElem?_eq_some_iff.mp h).1
  rw [List.getElem?_append_left (by rw [List.length_map]; exact hi), List.getElem?_map, h]
  rfl
/-- the slots at the start: the pool, what is handed over, nothing -/
def startP (m : Nat) (p : Addr) (pds ds : List D) : Env := some (.pin p pds) :: startE m ds
section
variable {P : Program} {w : World} {K : PySem.W.Frag} {mg : Str → Option Value} {base : Heap}
theorem fn_pool {x qual : Str} {st : Stmt} {f : Addr} {fd : FuncData} {M ps : List Str} {y : Str} {k : Nat} {W : FW} {R : PR} (F : Fun K x qual st f fd) (S : FnScope (y :: M) ps (defScope st)) (m : Mono W) (hlen : ∀ ds Φ, R ds Φ → ds.length + 1 = ps.length)
    (hbody : ∀ (cdv : Value) (A : Around) (outer : List PySem.Env) (s : Shared) (H : Hp) (E : XK), Room k (A.deeper (envOfC qual (defScope st) s.heap.objs.size f cdv)) → ∃ t, Cvs (cxOf CX0 P w K mg base (y :: M) qual (defScope st) f cdv A outer s H E).nox (defBody st) t W)
    (hW : ∀ (p : Addr) (pds ds : List D) (Φ : D → Prop), PoolOk pds → R ds Φ → W (startP M.length p pds ds) fun o => ∃ d ρ' pds', o = .rt d ρ' ∧ Φ d ∧ ρ'[0]? = some (some (.pin p pds')) ∧ PoolOk pds') :
    FnOk P w K mg base CX0 (k + 1) f fd ps (spP R) := by
  refine F.ok S (fun vs H Q E h => ?_) (fun cdv A outer s H vs Q E hr h => ?_)
  · obtain ⟨S', p, pv, pds, avs, ds, Φ, rfl, al, sp, hp, hd, po, ha, kR, q⟩ := h
    rw [List.length_cons, ha.length, hlen ds Φ kR]
  · obtain ⟨S', p, pv, pds, avs, ds, Φ, rfl, al, sp, hp, hd, po, ha, kR, q⟩ := h
    obtain ⟨t, c⟩ := hbody cdv A outer s H E hr
    refine ⟨t, c.ps, ?_⟩
    have hl := ha.length
    have H0x : ∀ a o, (fun a => if a = p then none else H a : Hp) a = some o → a ≠ p ∧ H a = some o := fun a o e => by
      have e' : (if a = p then none else H a) = some o := e
      by_cases z : a = p
      · rw [if_pos z] at e'; cases e'
      · rw [if_neg z] at e'; exact ⟨z, e'⟩
    have Rst : RelE (fun a => S' a ∧ a ≠ p) S' H (L2.start (y :: M) (.ref p :: avs)) (startP M.length p pds ds) := by
      refine ⟨?_, fun i c e => ?_, al, fun a z => z.1, fun i j ci cj a n ei ej mi mj si sj => ?_⟩
      · unfold startP L2.start startE
        simp [hl]
      · cases i with
        | zero =>
          have e' : some (some (Cell.pin p pds)) = some (some c) := e
          obtain rfl := Option.some.inj (Option.some.inj e')
          exact ⟨.ref p, start_at rfl, pv, rfl, sp, fun z => z.2 rfl, hp, hd⟩
        | succ i =>
          obtain ⟨d, e1, rfl⟩ := startE_at (show (startE M.length ds)[i]? = some (some c) from e)
          obtain ⟨v, e2, o⟩ := ha.get e1
          exact ⟨v, start_at (show (V.ref p :: avs)[i + 1]? = some v from e2), o⟩
      · have z : ∀ (i : Nat) (c : Cell), (startP M.length p pds ds)[i]? = some (some c) → c.mine = true → i = 0 := fun i c e mc => by
          cases i with
          | zero => rfl
          | succ i =>
            obtain ⟨d, e1, rfl⟩ := startE_at (show (startE M.length ds)[i]? = some (some c) from e)
            cases mc
        exact n ((z i ci ei mi).trans (z j cj ej mj).symm)
    refine c.so (fun a => S' a ∧ a ≠ p) (fun a => if a = p then none else H a) S' H _ _ _ ⟨Rst, fun a o e => (H0x a o e).2, fun a sa na => ?_⟩ (m _ _ _ (fun o ho => ?_) (hW p pds ds Φ po kR))
    · have : a = p := Classical.byContradiction fun z => na ⟨sa, z⟩
      show (if a = p then none else H a) = none
      rw [if_pos this]
    · obtain ⟨d, ρ', pds', rfl, hΦ, e0, po'⟩ := ho
      intro S2 H2 σ2 v R2 o2
      obtain ⟨v0, _, pv', ev, sp2, _, hp2, hd2⟩ := R2.e.cell 0 _ e0
      have sub : ∀ a, S' a → S2 a := fun a z => by
        by_cases q : a = p
        · rw [q]; exact sp2
        · exact R2.e.sub a ⟨z, q⟩
      refine q v H2 pv' pds' d (fun a o n e => R2.ex a o ?_) hp2 (DaAll.mono (cut_less sub) _ _ hd2) po' (Da.mono (cut_less sub) _ _ o2) hΦ
      show (if a = p then none else H a) = some o
      rw [if_neg n]
      exact e
theorem cap_of {x qual : Str} {st : Stmt} {f : Addr} {fd : FuncData} {M ps : List Str} {y : Str} {k : Nat} {W : FW} {R : PR} (F : Fun K x qual st f fd) (S : FnScope (y :: M) ps (defScope st)) (gm : mg x = some (.ref f)) (b : Binds K fd ps []) (m : Mono W) (hlen : ∀ ds Φ, R ds Φ → ds.length + 1 = ps.length)
    (hW : ∀ (p : Addr) (pds ds : List D) (Φ : D → Prop), PoolOk pds → R ds Φ → W (startP M.length p pds ds) fun o => ∃ d ρ' pds', o = .rt d ρ' ∧ Φ d ∧ ρ'[0]? = some (some (.pin p pds')) ∧ PoolOk pds')
    (hbody : ∀ (cdv : Value) (A : Around) (outer : List PySem.Env) (s : Shared) (H : Hp) (E : XK), Room k (A.deeper (envOfC qual (defScope st) s.heap.objs.size f cdv)) → ∃ t, Cvs (cxOf CX0 P w K mg base (y :: M) qual (defScope st) f cdv A outer s H E).nox (defBody st) t W) :
    Cap P w K mg base x (k + 1) R := ⟨f, fd, ps, fn_pool F S m hlen hbody hW, gm, F.kp, b⟩
end

/-! ### x[i] = e, x the pool -/
def gPutP (i : Nat) (I F : F1) : FS := fun ρ => match ρ[i]? with
  | some (some (.pin p ds)) => match F ρ with
    | some d => match I ρ with
      | some (.int k) => match ixN ds.length k with
        | some j => .nx (ρ.set i (some (.pin p (ds.set j d))))
        | none => .no
      | _ => .no
    | none => .no
  | _ => .no
section
variable {X : Cx} {e ix : Expr} {te ti : TE} {F I : F1} {pos pos' p1 p2 : Pos}
theorem so_putP {i : Nat} (he : SE te F) (hi : SE ti I) : SS (tAsg te (gSub (tVar i) ti rSetL)) (gPutP i I F) := fun N H0 S H σ ρ E R k => by
  unfold gPutP at k
  split at k
  · rename_i p ds e0
    split at k
    · rename_i d e1
      split at k
      · rename_i n e2
        split at k
        · rename_i j e3
          obtain ⟨v, sv, vs, rfl, sp, np, hp, hv⟩ := R.e.cell i _ e0
          refine he N S H σ ρ d R.e e1 _ fun w H1 x1 o1 => ?_
          refine ⟨.ref p, sv, ?_⟩
          refine hi N S H1 σ ρ _ (R.e.mono x1) e2 _ fun w2 H2 x2 o2 => ?_
          cases o2
          have x12 := x1.trans x2
          have R2 := R.mono x12
          refine ⟨p, vs, n, j, rfl, rfl, x12 _ _ hp, by rw [hv.length]; exact e3, ?_⟩
          exact k S _ σ ⟨R2.e.putPin e0 ((DaAll.mono (cut_mono x12) _ _ hv).set (Da.mono (cut_mono x2) _ _ o1) j), Evl.Ex.mut R2.ex (R2.new p sp np), R2.new⟩
        · exact k.elim
      · exact k.elim
    · exact k.elim
  · exact k.elim
theorem cs_putP {i : Nat} {x : Str} (he : Ce X e te F) (hi : Ce X ix ti I) (hN : X.N[i]? = some x := by rfl) (hv : Vis X.env.scope x := by first | exact Or.inl rfl | exact Or.inr (Or.inl rfl) | exact Or.inr (Or.inr rfl)) (h1 : (x == ("__debug__" : Str)) = false := by decide) (h2 : (x == ("__classdict__" : Str)) = false := by decide)
    (hs : swapsWithSole [.Subscript (.Name x p1) ix p2] e pos.line X.env = pure false := by rfl) (hw : swappedStores [.Subscript (.Name x p1) ix p2] e X.env = pure none := by rfl)
    (ha : (assignEach [.Subscript (.Name x p1) ix p2] X.env).map (·.2) = [assign (.Subscript (.Name x p1) ix p2) X.env] := by rfl)
    (hp : ∀ v, assign (.Subscript (.Name x p1) ix p2) X.env v = (do
      let ov ← holding [v] (eval (.Name x p1) X.env)
      let iv ← holding [v, ov] (eval ix X.env)
      standAt p2
      holding [v, ov, iv] (setItem ov iv v)
      release [v, ov, iv] []) := by intro _; rfl) :
    Cs X (.Assign [.Subscript (.Name x p1) ix p2] e pos) (tAsg te (gSub (tVar i) ti rSetL)) (gPutP i I F) :=
  ⟨ps_asg he.pe (pg_sub (pe_var hN hv h1 h2) hi.pe set_list hp) hs hw ha, so_putP he.so hi.so⟩
end
end Wd

set_option Elab.async false
set_option linter.all false
set_option maxRecDepth 100000
set_option maxHeartbeats 4000000
set_option autoImplicit false
/-! Drawing within a list comprehension; tests that draw. -/
namespace Wd
open PySem PyProof.Rows L2
/-! ### what is walked, told by a draw -/
def SIw (wi : TI) (W : AW) : Prop := ∀ (N : Addr → Prop) (H0 : Hp) (S : Addr → Prop) (H : Hp) (σ : L2.St) (ρ : Env) (Φ : List D → Env → Prop), RelS N H0 S H σ ρ → W ρ Φ → ∀ R : It → Hp → Prop,
  (∀ J H' vs ds ρ', RelS N H0 S H' σ ρ' → Step S ρ ρ' H H' → DaAll (cut H' S) vs ds → (∀ H'', Ex (cut H' S) H'' → Yld J H'' vs) → Φ ds ρ' → R J H') → wi σ H R
structure Iw (X : Cx) (tg iter : Expr) (wi : TI) (W : AW) : Prop where
  pi : PI X tg iter wi
  so : SIw wi W
def wRng1 (A : AW) : AW := fun ρ Φ => A ρ fun ds ρ1 => ∃ n : Int, ds = [.int n] ∧ okI n = true ∧ Φ (rngD 0 n.toNat) ρ1
section
variable {X : Cx} {tg a : Expr} {wi : TI} {L : FA} {ta : TA} {W : AW} {p pos : Pos}
theorem iw_lift (h : Ci X tg a wi L) : Iw X tg a wi (wLA L) := ⟨h.pi, fun N H0 S H σ ρ Φ R ⟨ds, e, k⟩ T q => h.so N S H σ ρ ds R.e e T fun J H1 vs x1 o1 yl => q J H1 vs ds ρ (R.mono x1) (.of x1) o1 yl k⟩
theorem iw_range1 (hg : Gl X "range") (hm : X.mg "range" = none) (ha : Aw X [a] ta W) (hs : starEach [a] X.env = [(false, eval a X.env)] := by rfl) : Iw X tg (.Call (.Name "range" p) [a] [] pos) (iRng1 ta) (wRng1 W) := ⟨pi_range1 hg hm ha.pa hs, fun N H0 S H σ ρ Φ R k T q => by
  refine ha.so N H0 S H σ ρ _ R k _ fun vs H1 ds ρ1 R1 x1 o1 ⟨n, e, hn, k1⟩ => ?_
  subst e
  cases o1 with
  | cons h1 h2 =>
    cases h2
    cases h1
    obtain ⟨n1, n2⟩ := okI_iff.mp hn
    exact ⟨n, rfl, n1, n2, q _ H1 (rngV 0 n.toNat) _ ρ1 R1 x1 da_rng (fun _ _ => yld_rng) k1⟩⟩
end
/-! ### tests that draw -/
abbrev TW := Env → (Bool → Env → Prop) → Prop
def STw (t : TT) (W : TW) : Prop := ∀ (N : Addr → Prop) (H0 : Hp) (S : Addr → Prop) (H : Hp) (σ : L2.St) (ρ : Env) (Φ : Bool → Env → Prop), RelS N H0 S H σ ρ → W ρ Φ → ∀ Q : Bool → Hp → Prop, (∀ b H' ρ', RelS N H0 S H' σ ρ' → Step S ρ ρ' H H' → Φ b ρ' → Q b H') → t σ H Q
def wTest (W : EW) : TW := fun ρ Φ => W ρ fun d ρ1 => ∃ b, d = .bool b ∧ Φ b ρ1
def wLT (B : FT) : TW := fun ρ Φ => ∃ b, B ρ = some b ∧ Φ b ρ
structure Tws (X : Cx) (ifs : List Expr) (t : TT) (W : TW) : Prop where
  pt : PTs X ifs t
  so : STw t W
section
variable {X : Cx} {a b e : Expr} {es ifs : List Expr} {ta tb te : TE} {tt : TT} {Wa Wb : EW} {B : FT} {pos : Pos}
theorem tws_lift (h : Cts X ifs tt B) : Tws X ifs tt (wLT B) := ⟨h.pt, fun N H0 S H σ ρ Φ R ⟨b, e, k⟩ Q q => h.so N S H σ ρ b R.e e Q fun H1 x1 => q b H1 ρ (R.mono x1) (.of x1) k⟩
theorem tws_cmp {op : CmpOp} {r : R2} {g : D → D → Option D} (ho : OpR X (compareOp op) r) (hr : RD2 r g) (ha : Ew X a ta Wa) (hb : Ew X b tb Wb) (hm : behindInMarks op b = false := by first | exact nomark _ | rfl | with_unfolding_all rfl) :
    Tws X [.Compare a [op] [b] pos] (tTest (tOp r ta tb)) (wTest (wBin g Wa Wb)) := ⟨pts_one (pt_cmpR ho ha.pe hb.pe hm), fun N H0 S H σ ρ Φ R k Q q => by
  refine (sew_op hr ha.so hb.so) N H0 S H σ ρ _ R k _ fun v H1 d ρ1 R1 x1 o1 ⟨b, e, k1⟩ => ?_
  subst e
  cases o1
  exact ⟨b, rfl, q b H1 ρ1 R1 x1 k1⟩⟩
end

/-! ### the pool while something walks -/
theorem RelE.pool2 {N S S2 : Addr → Prop} {H H' : Hp} {σ : L2.St} {ρ : Env} {i : Nat} {p : Addr} {c0 c1 : Cell} (h : RelE N S H σ ρ) (hi : ρ[i]? = some (some c0)) (m0 : c0.mine = true) (si : σ[i]? = some (some (.ref p))) (hS : ∀ a, S a → S2 a) (al2 : Alive S2 H') (ec : Ex (cut H S) (cut H' S2))
    (hH : ∀ a o, a ≠ p → H a = some o → H' a = some o) (ok1 : CellOk N S2 H' (.ref p) c1) : RelE N S2 H' σ (ρ.set i (some c1)) := by
  have hil : i < ρ.length := (List.getElem?_eq_some_iff.mp hi).1
  refine ⟨by rw [List.length_set]; exact h.len, fun j c e => ?_, al2, fun a z => hS a (h.sub a z), fun j k cj ck b n ej ek mj mk sj sk => ?_⟩
  · by_cases z : i = j
    · subst z
      rw [List.getElem?_set_self hil] at e
      obtain rfl := Option.some.inj (Option.some.inj e)
      exact ⟨_, si, ok1⟩
    · rw [List.getElem?_set_ne z] at e
      obtain ⟨w, sw, ok⟩ := h.cell j c e
      refine ⟨w, sw, ?_⟩
      cases c with
      | dat d => exact Da.mono ec _ _ ok
      | own es =>
        obtain ⟨b, ws, e1, h1, h2, h3, h4⟩ := ok
        subst e1
        refine ⟨b, ws, rfl, hS _ h1, h2, hH _ _ ?_ h3, DaAll.mono ec _ _ h4⟩
        rintro rfl
        exact h.sep i j _ _ _ z hi e m0 rfl si sw
      | dic kvs =>
        obtain ⟨b, ws, e1, h1, h2, h3, hk, h4⟩ := ok
        subst e1
        refine ⟨b, ws, rfl, hS _ h1, h2, hH _ _ ?_ h3, hk, DaAll.mono ec _ _ h4⟩
        rintro rfl
        exact h.sep i j _ _ _ z hi e m0 rfl si sw
      | pin b es =>
        obtain ⟨ws, e1, h1, h2, h3, h4⟩ := ok
        subst e1
        refine ⟨ws, rfl, hS _ h1, h2, hH _ _ ?_ h3, DaAll.mono ec _ _ h4⟩
        rintro rfl
        exact h.sep i j _ _ _ z hi e m0 rfl si sw
  · have f : ∀ {m : Nat} {cm : Cell}, (ρ.set i (some c1))[m]? = some (some cm) → cm.mine = true → ∃ c', ρ[m]? = some (some c') ∧ c'.mine = true := fun {m cm} em mm => by
      by_cases z : i = m
      · subst z; exact ⟨_, hi, m0⟩
      · rw [List.getElem?_set_ne z] at em; exact ⟨cm, em, mm⟩
    obtain ⟨c1, q1, m1⟩ := f ej mj
    obtain ⟨c2, q2, m2⟩ := f ek mk
    exact h.sep j k c1 c2 b n q1 q2 m1 m2 sj sk
/-- one turn: a test, a value -/
def wTurn (T : TW) (E : EW) : Env → (Option D → Env → Prop) → Prop := fun ρ Φ => T ρ fun b ρ1 => if b = true then E ρ1 fun y ρ2 => Φ (some y) ρ2 else Φ none ρ1
inductive All2 {α β : Type} (R : α → β → Prop) : List α → List β → Prop
  | nil : All2 R [] []
  | cons {a : α} {b : β} {as : List α} {bs : List β} : R a b → All2 R as bs → All2 R (a :: as) (b :: bs)
theorem All2.snoc {α β : Type} {R : α → β → Prop} : ∀ {as : List α} {bs : List β} {a : α} {b : β}, All2 R as bs → R a b → All2 R (as ++ [a]) (bs ++ [b])
  | _, _, _, _, .nil, h => .cons h .nil
  | _, _, _, _, .cons h t, h' => .cons h (All2.snoc t h')
/-- [E for .. in L if T] where all draw from the pool in slot i; Ψ: what may come of an item -/
def wLc (i : Nat) (L : AW) (vs : List Nat) (f : D → Env → Option Env) (T : TW) (E : EW) : EW := fun ρ Φ => L ρ fun ds ρ1 => ∃ (p : Addr) (pds : List D) (Ψ : D → Option D → Prop), ρ1[i]? = some (some (.pin p pds)) ∧ PoolOk pds ∧ ds.length ≤ 100000 ∧ (∀ a, Pinned ρ1 a → a = p) ∧
  (∀ c ∈ ds, ∀ pds', PoolOk pds' → ∃ ρ2, f c (wipeE (ρ1.set i (some (.pin p pds'))) vs) = some ρ2 ∧ (∀ a, Pinned ρ2 a → a = p) ∧ wTurn T E ρ2 fun o ρ3 => Ψ c o ∧ ∃ pds'', ρ3[i]? = some (some (.pin p pds'')) ∧ PoolOk pds'') ∧
  ∀ os pds', All2 Ψ ds os → PoolOk pds' → Φ (.list (os.filterMap id)) (ρ1.set i (some (.pin p pds')))
def MonoT (T : TW) : Prop := ∀ ρ (P P' : Bool → Env → Prop), (∀ b ρ', P b ρ' → P' b ρ') → T ρ P → T ρ P'
theorem cut_newB {H H' : Hp} {S : Addr → Prop} {p q : Addr} (hp : H p = none) (sq : S q) (hH : ∀ a o, a ≠ q → H a = some o → H' a = some o) : Ex (cut H S) (cut H' fun a => S a ∨ a = p) := fun a o z => by
  obtain ⟨q1, q2⟩ := cut_some z
  refine cut_of (fun y => ?_) (hH a o (fun y => q1 (y ▸ sq)) q2)
  rcases y with y | y
  · exact q1 y
  · rw [y, hp] at q2; cases q2
theorem sew_lc {i : Nat} {wi : TI} {g : TG} {tt : TT} {te : TE} {vs : List Nat} {L : AW} {f : D → Env → Option Env} {T : TW} {E : EW} (mT : MonoT T) (mE : MonoE E) (hi : SIw wi L) (hg : SG g f) (hw : GW g vs) (ht : STw tt T) (he : SEw te E) : SEw (tLc wi g tt te vs) (wLc i L vs f T E) := fun N H0 S H σ ρ Φ R k Q q => by
  refine hi N H0 S H σ ρ _ R k _ fun J H1 xs ds ρ1 R1 x1 o1 yl ⟨p, pds, Ψ, ei, po, hlen, pin1, turns, kΦ⟩ => fun Dl hD => ?_
  have hxl := o1.length
  obtain ⟨v, sv, pv, ev, sp, np, hp, hd⟩ := R1.e.cell i _ ei
  subst ev
  have pD : p ≠ Dl := fun z => by rw [z, hD] at hp; cases hp
  have x0 : Ex H1 (upd H1 Dl (.lst [])) := Evl.Ex.new hD
  refine ⟨fun m n H' => n = xs.length - m ∧ m ≤ xs.length ∧ (∀ a o, a ≠ p → H1 a = some o → H' a = some o) ∧ ∃ (pv' : List V) (pds' : List D) (acc : List V) (os : List (Option D)), H' p = some (.lst pv') ∧ DaAll (cut H' fun a => S a ∨ a = Dl) pv' pds' ∧ PoolOk pds' ∧ H' Dl = some (.lst acc) ∧
      DaAll (cut H' fun a => S a ∨ a = Dl) acc (os.filterMap id) ∧ acc.length ≤ m ∧ All2 Ψ (ds.take m) os,
    ⟨xs.length, by simp, Nat.zero_le _, fun a o _ e => x0 a o e, pv, pds, [], [], x0 _ _ hp, DaAll.mono (cut_new hD x0) _ _ hd, po, upd_same, .nil, Nat.le_refl _, .nil⟩, ?_⟩
  rintro m n H' ⟨rfl, hile, hH, pv', pds', acc, os, hp', hd', po', hacc, oacc, hal, h2⟩
  have xc : Ex (cut H1 S) (cut H' fun a => S a ∨ a = Dl) := cut_newB hD sp hH
  obtain ⟨ygo, yst⟩ := yl H' (xc.trans cut_ex)
  have al2 : Alive (fun a => S a ∨ a = Dl) H' := fun a z => by
    rcases z with z | z
    · by_cases y : a = p
      · rw [y]; exact .inl ⟨_, hp'⟩
      · rcases R1.e.al a z with ⟨ys, w⟩ | ⟨ys, w⟩
        · exact .inl ⟨ys, hH _ _ y w⟩
        · exact .inr ⟨ys, hH _ _ y w⟩
    · rw [z]; exact .inl ⟨acc, hacc⟩
  have ex0 : Ex H0 H' := fun a o z => hH a o (fun y => by rw [y, R1.new p sp np] at z; cases z) (R1.ex a o z)
  have R3 : RelS N H0 (fun a => S a ∨ a = Dl) H' σ (ρ1.set i (some (.pin p pds'))) := ⟨R1.e.pool2 ei rfl sv (fun a z => .inl z) al2 xc hH ⟨pv', rfl, .inl sp, np, hp', hd'⟩, ex0, fun a z na => by
    rcases z with z | z
    · exact R1.new a z na
    · rw [z]; exact Evl.fresh_back R1.ex hD⟩
  by_cases hlt : m < xs.length
  · obtain ⟨x, hx⟩ : ∃ x, xs[m]? = some x := ⟨xs[m], List.getElem?_eq_getElem hlt⟩
    obtain ⟨g1, g2⟩ := ygo m x hx
    have hdl : m < ds.length := by rw [← hxl]; exact hlt
    have hdi : ds[m]? = some ds[m] := List.getElem?_eq_getElem hdl
    have htk : ds.take (m + 1) = ds.take m ++ [ds[m]] := by rw [List.take_succ, hdi]; rfl
    obtain ⟨x', hx', ox⟩ := o1.get hdi
    rw [hx] at hx'
    obtain rfl := Option.some.inj hx'
    refine .inr ⟨g1, fun H'' => (∀ a o, a ≠ p → H1 a = some o → H'' a = some o) ∧ ∃ (pv' : List V) (pds' : List D) (acc : List V) (os : List (Option D)), H'' p = some (.lst pv') ∧ DaAll (cut H'' fun a => S a ∨ a = Dl) pv' pds' ∧ PoolOk pds' ∧ H'' Dl = some (.lst acc) ∧
        DaAll (cut H'' fun a => S a ∨ a = Dl) acc (os.filterMap id) ∧ acc.length ≤ m + 1 ∧ All2 Ψ (ds.take (m + 1)) os,
      fun H'' ⟨y1, y2⟩ => ⟨xs.length - (m + 1), by omega, rfl, hlt, y1, y2⟩, fun x'' H'' hy => ?_⟩
    obtain ⟨rfl, rfl⟩ := g2 x'' H'' hy
    obtain ⟨ρ2, eg, pin2, kt⟩ := turns ds[m] (List.getElem_mem hdl) pds' po'
    refine hw _ σ H'' _ (hg N _ H'' _ (wipeE (ρ1.set i (some (.pin p pds'))) vs) ρ2 _ _ (R3.e.wipe vs) (Da.mono xc _ _ ox) eg _ fun σ1 R4 => ?_)
    have R5 : RelS N H0 (fun a => S a ∨ a = Dl) H'' σ1 ρ2 := ⟨R4, R3.ex, R3.new⟩
    have nD : ∀ ρx : Env, (∀ a, Pinned ρx a → a = p) → ¬ Pinned ρx Dl := fun ρx h z => pD (h Dl z).symm
    refine ht N H0 _ H'' σ1 ρ2 _ R5 kt _ fun b H3 ρ3 R6 x3 kb => ?_
    have pin3 : ∀ a, Pinned ρ3 a → a = p := fun a z => pin2 a (x3.pins a z)
    have hD3 : H3 Dl = some (.lst acc) := x3.frame _ _ (nD ρ2 pin2) hacc
    have hH3 : ∀ a o, a ≠ p → H1 a = some o → H3 a = some o := fun a o n e => x3.frame a o (fun z => n (pin2 a z)) (hH a o n e)
    cases b with
    | true =>
      refine iteT (he N H0 _ H3 σ1 ρ3 _ R6 kb _ fun v H4 y ρ4 R7 x4 o4 ⟨hΨ, pds4, e4, po4⟩ => ?_)
      have hD4 : H4 Dl = some (.lst acc) := x4.frame _ _ (nD ρ3 pin3) hD3
      have hH4 : ∀ a o, a ≠ p → H1 a = some o → H4 a = some o := fun a o n e => x4.frame a o (fun z => n (pin3 a z)) (hH3 a o n e)
      obtain ⟨v5, sv5, pv5, ev5, _, _, hp5, hd5⟩ := R7.e.cell i _ e4
      refine ⟨acc, hD4, Evl.sz_lt (by omega), ?_, pv5, pds4, acc ++ [v], os ++ [some y], ?_, ?_, po4, upd_same, ?_, by rw [List.length_append, List.length_singleton]; omega, by rw [htk]; exact h2.snoc hΨ⟩
      · intro a o n e
        rw [upd_ne]
        · exact hH4 a o n e
        · intro z; rw [z, hD] at e; cases e
      · rw [upd_ne pD]; exact hp5
      · rw [cut_upd (.inr rfl)]; exact hd5
      · rw [cut_upd (.inr rfl), List.filterMap_append]
        exact (DaAll.mono (x3.cut.trans x4.cut) _ _ oacc).snoc o4
    | false =>
      obtain ⟨hΨ, pds4, e4, po4⟩ := kb
      obtain ⟨v5, sv5, pv5, ev5, _, _, hp5, hd5⟩ := R6.e.cell i _ e4
      refine iteF ⟨hH3, pv5, pds4, acc, os ++ [none], hp5, hd5, po4, hD3, ?_, by omega, by rw [htk]; exact h2.snoc hΨ⟩
      rw [List.filterMap_append]
      simp only [List.filterMap_cons, id, List.filterMap_nil, List.append_nil]
      exact DaAll.mono x3.cut _ _ oacc
  · have em : m = xs.length := by omega
    refine .inl ⟨yst m (by omega), ?_⟩
    rw [List.take_of_length_le (by omega)] at h2
    have hDn : ¬ S Dl := R1.e.al.there hD
    have ecS : Ex (cut H1 S) (cut H' S) := xc.trans (cut_less fun a z => .inl z)
    have R8 : RelS N H0 S H' σ (ρ1.set i (some (.pin p pds'))) := ⟨R1.e.pool2 ei rfl sv (fun a z => z) (fun a z => al2 a (.inl z)) ecS hH ⟨pv', rfl, sp, np, hp', DaAll.mono (cut_less fun a z => .inl z) _ _ hd'⟩, ex0, R1.new⟩
    have hset : ∀ a, Pinned (ρ1.set i (some (.pin p pds'))) a → Pinned ρ1 a := fun a ⟨j, es, ej⟩ => by
      by_cases z : i = j
      · subst z
        have hi : i < ρ1.length := (List.getElem?_eq_some_iff.mp ei).1
        rw [List.getElem?_set_self hi] at ej
        have e1 := Option.some.inj (Option.some.inj ej)
        injection e1 with e2 e3
        subst e2
        exact ⟨i, pds, ei⟩
      · rw [List.getElem?_set_ne z] at ej
        exact ⟨j, es, ej⟩
    refine q (.ref Dl) H' _ _ R8 (x1.trans ⟨ecS, fun a o n e => hH a o (fun z => n (z ▸ ⟨i, pds, ei⟩)) e, hset⟩) (.lst (cut_of hDn hacc) (DaAll.mono (cut_less fun a z => .inl z) _ _ oacc)) (kΦ os pds' h2 po')
section
variable {X : Cx} {elt tg iter : Expr} {ifs : List Expr} {scope : Scope} {own : List (Str × Nat)} {pos : Pos} {wi : TI} {g : TG} {tt : TT} {te : TE} {L : AW} {f : D → Env → Option Env} {T : TW} {E : EW}
theorem ew_lc {i : Nat} (mT : MonoT T) (mE : MonoE E) (hc : X.calm = true) (hN : X.N.Nodup) (hi : Iw X tg iter wi L) (ok : BlkOk X.N X.env.scope scope own)
    (hg : ∀ (s : Shared) (H : Hp) (C : Addr) (cl : List (Str × Addr)) (fp : List Addr), Cg (X.blk s H scope (compEnvC scope cl C X.env) fp) tg g f) (hw : GW g (own.map (·.2)))
    (ht : ∀ (s : Shared) (H : Hp) (C : Addr) (cl : List (Str × Addr)) (fp : List Addr), Tws (X.blk s H scope (compEnvC scope cl C X.env) fp) ifs tt T)
    (he : ∀ (s : Shared) (H : Hp) (C : Addr) (cl : List (Str × Addr)) (fp : List Addr), Ew (X.blk s H scope (compEnvC scope cl C X.env) fp) elt te E) (hs : ∀ x, foldedSetIterable iter X.env x = pure x := by intro _; rfl) :
    Ew X (.ListComp elt [⟨tg, iter, ifs, 0⟩] scope pos) (tLc wi g tt te (own.map (·.2))) (wLc i L (own.map (·.2)) f T E) :=
  ⟨pe_lc hc hN hi.pi ok (fun s H C cl fp => (hg s H C cl fp).pg) (fun s H C cl fp => (ht s H C cl fp).pt) (fun s H C cl fp => (he s H C cl fp).pe) hs,
    sew_lc mT mE hi.so (hg {} (fun _ => none) 0 [] []).so hw (ht {} (fun _ => none) 0 [] []).so (he {} (fun _ => none) 0 [] []).so⟩
end
end Wd

set_option Elab.async false
set_option linter.all false
set_option autoImplicit false
/-! Words of sides, the group they tell of, its linear form (plain Lean). -/
namespace Mt
abbrev Wrd := List Int
/-- two sides that meet -/
def adj (n a b : Int) : Bool := decide (a - b = 1 ∨ b - a = 1 ∨ a - b = n - 1 ∨ b - a = n - 1)
theorem adj_comm (n a b : Int) : adj n a b = adj n b a := by
  unfold adj
  apply decide_eq_decide.mpr
  omega
theorem adj_self {n a : Int} (h : 3 ≤ n) : adj n a a = false := by
  unfold adj
  apply decide_eq_false
  omega
/-- side a can be moved to the front -/
def front (n a : Int) : Wrd → Bool
  | [] => false
  | b :: w => if b = a then true else adj n b a && front n a w
def inR (n : Int) (w : Wrd) : Prop := ∀ a ∈ w, 0 ≤ a ∧ a < n
section
variable {n a b : Int} {w u v : Wrd}
theorem front_iff : ∀ {w : Wrd}, front n a w = true ↔ ∃ y z, w = y ++ a :: z ∧ (∀ b ∈ y, b ≠ a ∧ adj n b a = true) ∧ w.erase a = y ++ z
  | [] => by
    unfold front
    constructor
    · intro h; cases h
    · rintro ⟨y, z, e, _⟩
      cases y <;> cases e
  | b :: w => by
    unfold front
    by_cases h : b = a
    · subst h
      rw [if_pos rfl]
      exact ⟨fun _ => ⟨[], w, rfl, fun b hb => (by cases hb), by simp⟩, fun _ => rfl⟩
    · rw [if_neg h, Bool.and_eq_true, front_iff]
      constructor
      · rintro ⟨h1, y, z, e, hy, he⟩
        refine ⟨b :: y, z, by rw [e]; rfl, fun c hc => ?_, ?_⟩
        · rcases List.mem_cons.mp hc with q | q
          · subst q; exact ⟨h, h1⟩
          · exact hy c q
        · rw [List.erase_cons_tail (by simpa using h), he]; rfl
      · rintro ⟨y, z, e, hy, he⟩
        cases y with
        | nil => exact absurd (List.cons.inj e).1 h
        | cons c y =>
          obtain ⟨rfl, e2⟩ := List.cons.inj e
          refine ⟨(hy _ List.mem_cons_self).2, y, z, e2, fun d hd => hy d (List.mem_cons_of_mem _ hd), ?_⟩
          rw [List.erase_cons_tail (by simpa using h)] at he
          exact (List.cons.inj he).2
theorem front_of {y z : Wrd} (h : ∀ b ∈ y, adj n b a = true) : front n a (y ++ a :: z) = true := by
  induction y with
  | nil => unfold front; simp
  | cons c y ih =>
    show (if c = a then true else adj n c a && front n a (y ++ a :: z)) = true
    by_cases q : c = a
    · rw [if_pos q]
    · rw [if_neg q, h c List.mem_cons_self, ih fun b hb => h b (List.mem_cons_of_mem _ hb)]; rfl
theorem front_mem (h : front n a w = true) : a ∈ w := by
  obtain ⟨y, z, e, _⟩ := front_iff.mp h
  rw [e]; simp
theorem front_len (h : front n a w = true) : (w.erase a).length + 1 = w.length := by
  obtain ⟨y, z, e, _, he⟩ := front_iff.mp h
  rw [he, e]; simp; omega
/-- a side twice, with nothing between that stands in the way -/
def Bad (n : Int) (w : Wrd) : Prop := ∃ x a y z, w = x ++ a :: (y ++ a :: z) ∧ ∀ b ∈ y, adj n b a = true
def Red (n : Int) (w : Wrd) : Prop := ¬ Bad n w
theorem red_nil : Red n [] := by
  rintro ⟨x, a, y, z, e, _⟩
  cases x <;> cases e
theorem red_cons : Red n (a :: w) ↔ front n a w = false ∧ Red n w := by
  constructor
  · intro h
    refine ⟨?_, fun ⟨x, b, y, z, e, hy⟩ => h ⟨a :: x, b, y, z, by rw [e]; rfl, hy⟩⟩
    cases q : front n a w with
    | false => rfl
    | true =>
      obtain ⟨y, z, e, hy, _⟩ := front_iff.mp q
      exact absurd ⟨[], a, y, z, by rw [e]; rfl, fun b hb => (hy b hb).2⟩ h
  · rintro ⟨h1, h2⟩ ⟨x, b, y, z, e, hy⟩
    cases x with
    | nil =>
      obtain ⟨rfl, e2⟩ := List.cons.inj e
      rw [e2, front_of hy] at h1
      cases h1
    | cons c x =>
      obtain ⟨rfl, e2⟩ := List.cons.inj e
      exact h2 ⟨x, b, y, z, e2, hy⟩
theorem bad_rev (h : Bad n w) : Bad n w.reverse := by
  obtain ⟨x, a, y, z, e, hy⟩ := h
  refine ⟨z.reverse, a, y.reverse, x.reverse, by rw [e]; simp, fun b hb => hy b (List.mem_reverse.mp hb)⟩
theorem red_rev : Red n w.reverse ↔ Red n w := ⟨fun h q => h (bad_rev q), fun h q => h (by have := bad_rev q; rwa [List.reverse_reverse] at this)⟩
theorem red_snoc : Red n (w ++ [a]) ↔ front n a w.reverse = false ∧ Red n w := by
  rw [← red_rev, List.reverse_append, List.reverse_singleton, List.singleton_append, red_cons, red_rev]
/-- a side that is moved away leaves what is left as it should be -/
theorem split_mid {α : Type} {z t : List α} {b : α} : ∀ {y x : List α}, y ++ z = x ++ b :: t → (∃ r, y = x ++ b :: r ∧ t = r ++ z) ∨ ∃ r, x = y ++ r ∧ z = r ++ b :: t
  | [], x, e => .inr ⟨x, rfl, e⟩
  | c :: y, [], e => by
    obtain ⟨rfl, e2⟩ := List.cons.inj e
    exact .inl ⟨y, rfl, e2.symm⟩
  | c :: y, d :: x, e => by
    obtain ⟨rfl, e2⟩ := List.cons.inj e
    rcases split_mid e2 with ⟨r, h1, h2⟩ | ⟨r, h1, h2⟩
    · exact .inl ⟨r, by rw [h1]; rfl, h2⟩
    · exact .inr ⟨r, by rw [h1]; rfl, h2⟩
theorem red_erase (h : Red n w) (hf : front n a w = true) : Red n (w.erase a) ∧ front n a (w.erase a) = false := by
  obtain ⟨y, z, e, hy, he⟩ := front_iff.mp hf
  rw [he]
  constructor
  · rintro ⟨x, b, m, t, q, hm⟩
    refine h ?_
    rw [e]
    rcases split_mid q with ⟨r, h1, h2⟩ | ⟨r, h1, h2⟩
    · -- the first lies in y
      rcases split_mid h2.symm with ⟨r2, h3, h4⟩ | ⟨r2, h3, h4⟩
      · -- the second, too
        refine ⟨x, b, m, r2 ++ a :: z, ?_, hm⟩
        rw [h1, h3]; simp
      · refine ⟨x, b, r ++ a :: r2, t, ?_, fun c hc => ?_⟩
        · rw [h1, h4]; simp
        · rcases List.mem_append.mp hc with p | p
          · exact hm c (by rw [h3]; exact List.mem_append_left _ p)
          · rcases List.mem_cons.mp p with p | p
            · subst p
              rw [adj_comm]
              exact (hy b (by rw [h1]; simp)).2
            · exact hm c (by rw [h3]; exact List.mem_append_right _ p)
    · refine ⟨y ++ a :: r, b, m, t, ?_, hm⟩
      rw [h2]; simp
  · cases q : front n a (y ++ z) with
    | false => rfl
    | true =>
      obtain ⟨y2, z2, e2, hy2, _⟩ := front_iff.mp q
      refine absurd ?_ h
      rw [e]
      rcases split_mid e2 with ⟨r, h1, h2⟩ | ⟨r, h1, h2⟩
      · exact absurd rfl (hy a (by rw [h1]; simp)).1
      · exact ⟨y, a, r, z2, by rw [h2], fun b hb => (hy2 b (by rw [h1]; exact List.mem_append_right _ hb)).2⟩
end

/-! ### the linear form -/
abbrev Vec := Int → Int
def sides (n : Int) : List Int := (List.range n.toNat).map fun (i : Nat) => (i : Int)
theorem mem_sides {n a : Int} : a ∈ sides n ↔ 0 ≤ a ∧ a < n := by
  unfold sides
  rw [List.mem_map]
  constructor
  · rintro ⟨i, h, rfl⟩
    have := List.mem_range.mp h
    omega
  · rintro ⟨h1, h2⟩
    exact ⟨a.toNat, List.mem_range.mpr (by omega), by omega⟩
theorem nodup_sides (n : Int) : (sides n).Nodup := by
  unfold sides
  rw [List.nodup_iff_pairwise_ne, List.pairwise_map]
  exact (List.nodup_range).imp fun {a b} h e => h (by omega)
def others (n a : Int) : List Int := (sides n).filter fun j => decide (j ≠ a) && !adj n j a
def sm (l : List Int) (v : Vec) : Int := (l.map v).sum
def wt (n a : Int) (v : Vec) : Int := v a - sm (others n a) v
def refl (n a : Int) (v : Vec) : Vec := fun i => if i = a then v a - 2 * wt n a v else v i
section
variable {n a b s t : Int} {w u : Wrd} {v v' : Vec}
theorem sm_congr {l : List Int} (h : ∀ j ∈ l, v j = v' j) : sm l v = sm l v' := by
  unfold sm
  rw [List.map_congr_left h]
theorem mem_others {j : Int} : j ∈ others n a ↔ (0 ≤ j ∧ j < n) ∧ j ≠ a ∧ adj n j a = false := by
  unfold others
  rw [List.mem_filter, mem_sides, Bool.and_eq_true, decide_eq_true_eq, Bool.not_eq_true']
theorem wt_refl : wt n a (refl n a v) = - wt n a v := by
  have e : sm (others n a) (refl n a v) = sm (others n a) v := sm_congr fun j hj => if_neg (mem_others.mp hj).2.1
  have e2 : refl n a v a = v a - 2 * wt n a v := if_pos rfl
  show refl n a v a - sm (others n a) (refl n a v) = _
  rw [e, e2]
  unfold wt
  omega
theorem refl_refl : refl n a (refl n a v) = v := by
  funext i
  by_cases h : i = a
  · subst h
    show (if i = i then refl n i v i - 2 * wt n i (refl n i v) else _) = _
    rw [if_pos rfl, wt_refl]
    show (if i = i then v i - 2 * wt n i v else _) - _ = _
    rw [if_pos rfl]
    omega
  · show (if i = a then _ else refl n a v i) = _
    rw [if_neg h]
    exact if_neg h
theorem wt_adj (h : adj n b a = true) (hne : a ≠ b) : wt n a (refl n b v) = wt n a v := by
  have e : sm (others n a) (refl n b v) = sm (others n a) v := sm_congr fun j hj => if_neg fun q => by
    subst q
    rw [(mem_others.mp hj).2.2] at h
    cases h
  show refl n b v a - sm (others n a) (refl n b v) = _
  rw [e]
  show (if a = b then _ else v a) - _ = _
  rw [if_neg hne]
  rfl
theorem refl_comm (h : adj n b a = true) (hne : b ≠ a) : refl n a (refl n b v) = refl n b (refl n a v) := by
  have h' : adj n a b = true := by rw [adj_comm]; exact h
  funext i
  by_cases ha : i = a
  · subst ha
    show (if i = i then refl n b v i - 2 * wt n i (refl n b v) else _) = (if i = b then _ else refl n i v i)
    rw [if_pos rfl, wt_adj h (Ne.symm hne), if_neg (Ne.symm hne)]
    show (if i = b then _ else v i) - _ = (if i = i then v i - 2 * wt n i v else _)
    rw [if_neg (Ne.symm hne), if_pos rfl]
  · by_cases hb : i = b
    · subst hb
      show (if i = a then _ else refl n i v i) = (if i = i then refl n a v i - 2 * wt n i (refl n a v) else _)
      rw [if_neg ha, if_pos rfl, wt_adj h' hne]
      show (if i = i then v i - 2 * wt n i v else _) = (if i = a then _ else v i) - _
      rw [if_neg ha, if_pos rfl]
    · show (if i = a then _ else refl n b v i) = (if i = b then _ else refl n a v i)
      rw [if_neg ha, if_neg hb]
      show (if i = b then _ else v i) = (if i = a then _ else v i)
      rw [if_neg ha, if_neg hb]
/-- x of s and y of t -/
def two (s t x y : Int) : Vec := fun i => (if i = s then x else 0) + (if i = t then y else 0)
def one (s : Int) : Vec := fun i => if i = s then 1 else 0
def comb (x : Int) (v : Vec) (y : Int) (v' : Vec) : Vec := fun i => x * v i + y * v' i
theorem sm_comb {x y : Int} : ∀ l : List Int, sm l (comb x v y v') = x * sm l v + y * sm l v'
  | [] => by simp [sm]
  | a :: l => by
    have ih := @sm_comb x y l
    unfold sm at ih ⊢
    rw [List.map_cons, List.map_cons, List.map_cons, List.sum_cons, List.sum_cons, List.sum_cons, ih, Int.mul_add, Int.mul_add]
    show x * v a + y * v' a + _ = _
    omega
theorem refl_comb {x y : Int} : refl n a (comb x v y v') = comb x (refl n a v) y (refl n a v') := by
  funext i
  by_cases h : i = a
  · subst h
    show (if i = i then comb x v y v' i - 2 * wt n i (comb x v y v') else _) = x * (if i = i then v i - 2 * wt n i v else _) + y * (if i = i then v' i - 2 * wt n i v' else _)
    rw [if_pos rfl, if_pos rfl, if_pos rfl]
    unfold wt
    rw [sm_comb]
    show x * v i + y * v' i - 2 * (x * v i + y * v' i - _) = _
    have e1 : ∀ p q : Int, p - 2 * (p - q) = 2 * q - p := fun p q => by omega
    rw [e1 (v i), e1 (v' i), Int.mul_sub x, Int.mul_sub y, Int.mul_left_comm x 2, Int.mul_left_comm y 2]
    omega
  · show (if i = a then _ else x * v i + y * v' i) = x * (if i = a then _ else v i) + y * (if i = a then _ else v' i)
    rw [if_neg h, if_neg h, if_neg h]
theorem two_comb {x y : Int} : two s t x y = comb x (one s) y (one t) := by
  funext i
  unfold two comb one
  by_cases h : i = s
  · by_cases h2 : i = t
    · rw [if_pos h, if_pos h2, if_pos h, if_pos h2, Int.mul_one, Int.mul_one]
    · rw [if_pos h, if_neg h2, if_pos h, if_neg h2, Int.mul_one, Int.mul_zero]
  · by_cases h2 : i = t
    · rw [if_neg h, if_pos h2, if_neg h, if_pos h2, Int.mul_zero, Int.mul_one]
    · rw [if_neg h, if_neg h2, if_neg h, if_neg h2, Int.mul_zero, Int.mul_zero]
theorem sm_one : ∀ {l : List Int}, l.Nodup → s ∈ l → sm l (one s) = 1
  | [], _, h => by cases h
  | a :: l, hn, h => by
    obtain ⟨h1, h2⟩ := List.nodup_cons.mp hn
    show one s a + sm l (one s) = 1
    rcases List.mem_cons.mp h with q | q
    · subst q
      have : sm l (one s) = 0 := by
        have e : sm l (one s) = sm l (fun _ => 0) := sm_congr fun j hj => if_neg fun z : j = s => h1 (z ▸ hj)
        rw [e]
        unfold sm
        rw [List.map_const']
        simp
      rw [this]
      simp [one]
    · rw [sm_one h2 q]
      have : one s a = 0 := if_neg fun z : a = s => h1 (z ▸ q)
      omega
theorem sm_none {l : List Int} (h : s ∉ l) : sm l (one s) = 0 := by
  have e : sm l (one s) = sm l (fun _ => 0) := sm_congr fun j hj => if_neg fun z : j = s => h (z ▸ hj)
  rw [e]
  unfold sm
  rw [List.map_const']
  simp
theorem nodup_others : (others n a).Nodup := (nodup_sides n).filter _
theorem refl_self (h3 : 3 ≤ n) : refl n s (one s) = comb (-1) (one s) 0 (one s) := by
  funext i
  unfold refl wt comb
  rw [sm_none fun q => (mem_others.mp q).2.1 rfl]
  by_cases h : i = s
  · subst h; simp [one]
  · simp [one, h]
theorem refl_adj (hne : s ≠ t) (h : adj n s t = true) : refl n t (one s) = one s := by
  funext i
  unfold refl wt
  rw [sm_none fun q => by rw [(mem_others.mp q).2.2] at h; cases h]
  by_cases q : i = t
  · subst q
    have : one s i = 0 := if_neg (Ne.symm hne)
    rw [if_pos rfl, this]; rfl
  · rw [if_neg q]
theorem refl_two {x y : Int} (hne : s ≠ t) (h : adj n s t = false) (hs : 0 ≤ s ∧ s < n) : refl n t (two s t x y) = two t s (2 * x - y) x := by
  have e1 : sm (others n t) (one s) = 1 := sm_one nodup_others (mem_others.mpr ⟨hs, hne, h⟩)
  have e2 : sm (others n t) (one t) = 0 := sm_none fun q => (mem_others.mp q).2.1 rfl
  funext i
  unfold refl wt
  rw [two_comb, sm_comb, e1, e2]
  unfold comb two one
  by_cases q : i = t
  · subst q
    rw [if_pos rfl, if_neg (Ne.symm hne), if_pos rfl, if_pos rfl]
    omega
  · rw [if_neg q, if_neg q, if_neg q]
    by_cases z : i = s
    · rw [if_pos z]; simp [z]
    · rw [if_neg z]; simp [z]
end

/-! ### words act -/
/-- the word is told backwards -/
def actR (n : Int) : Wrd → Vec → Vec
  | [], v => v
  | a :: u, v => actR n u (refl n a v)
section
variable {n a b s t : Int} {w u : Wrd} {v v' : Vec}
theorem actR_append : ∀ {u w : Wrd} {v : Vec}, actR n (u ++ w) v = actR n w (actR n u v)
  | [], _, _ => rfl
  | _ :: u, _, _ => actR_append (u := u)
theorem actR_comb {x y : Int} : ∀ {u : Wrd} {v v' : Vec}, actR n u (comb x v y v') = comb x (actR n u v) y (actR n u v')
  | [], _, _ => rfl
  | a :: u, v, v' => by
    show actR n u (refl n a (comb x v y v')) = _
    rw [refl_comb]
    exact actR_comb
theorem actR_pull : ∀ {y : Wrd} {v : Vec}, (∀ b ∈ y, b ≠ a ∧ adj n b a = true) → actR n y (refl n a v) = refl n a (actR n y v)
  | [], _, _ => rfl
  | b :: y, v, h => by
    show actR n y (refl n b (refl n a v)) = refl n a (actR n y (refl n b v))
    have h1 := h b List.mem_cons_self
    rw [← refl_comm h1.2 h1.1]
    exact actR_pull fun c hc => h c (List.mem_cons_of_mem _ hc)
theorem actR_front (h : front n a u = true) : actR n u v = actR n (u.erase a) (refl n a v) := by
  obtain ⟨y, z, e, hy, he⟩ := front_iff.mp h
  rw [he, e, actR_append, actR_append, actR_pull hy]
  rfl
theorem actR_inv : ∀ {u : Wrd} {v : Vec}, actR n u.reverse (actR n u v) = v
  | [], _ => rfl
  | a :: u, v => by
    rw [List.reverse_cons, actR_append]
    show refl n a (actR n u.reverse (actR n u (refl n a v))) = v
    rw [actR_inv, refl_refl]
theorem actR_inv' : actR n u (actR n u.reverse v) = v := by
  have := actR_inv (n := n) (u := u.reverse) (v := v)
  rwa [List.reverse_reverse] at this
def nn (v : Vec) : Prop := ∀ i, 0 ≤ v i
theorem nn_comb {x y : Int} (hx : 0 ≤ x) (hy : 0 ≤ y) (h : nn v) (h' : nn v') : nn (comb x v y v') := fun i => Int.add_nonneg (Int.mul_nonneg hx (h i)) (Int.mul_nonneg hy (h' i))
theorem inR_cons : inR n (a :: w) ↔ (0 ≤ a ∧ a < n) ∧ inR n w := ⟨fun h => ⟨h a List.mem_cons_self, fun b hb => h b (List.mem_cons_of_mem _ hb)⟩, fun ⟨h1, h2⟩ b hb => by
  rcases List.mem_cons.mp hb with q | q
  · subst q; exact h1
  · exact h2 b q⟩
theorem inR_erase (h : inR n w) : inR n (w.erase a) := fun b hb => h b (List.mem_of_mem_erase hb)
/-- where a side can't be moved to the end, its form is nowhere below nothing -/
theorem pos_both (h3 : 3 ≤ n) : ∀ (k : Nat) (u : Wrd), u.length ≤ k → inR n u → Red n u →
    (∀ s, 0 ≤ s ∧ s < n → front n s u = false → nn (actR n u (one s))) ∧
    (∀ s t x y, 0 ≤ s ∧ s < n → 0 ≤ t ∧ t < n → s ≠ t → adj n s t = false → front n s u = false → 0 ≤ y → y ≤ x → nn (actR n u (two s t x y)))
  | k, u, hk, hin, hr => by
    have A : ∀ s, 0 ≤ s ∧ s < n → front n s u = false → nn (actR n u (one s)) := by
      intro s hs hf
      cases u with
      | nil =>
        intro i
        show 0 ≤ (if i = s then (1 : Int) else 0)
        split <;> omega
      | cons t u =>
        cases k with
        | zero => simp at hk
        | succ k =>
          have hk' : u.length ≤ k := by simpa using hk
          obtain ⟨ht, hin'⟩ := inR_cons.mp hin
          obtain ⟨hft, hr'⟩ := red_cons.mp hr
          have hf' : (if t = s then true else adj n t s && front n s u) = false := hf
          by_cases hts : t = s
          · rw [if_pos hts] at hf'; cases hf'
          · rw [if_neg hts] at hf'
            show nn (actR n u (refl n t (one s)))
            cases ha : adj n t s with
            | true =>
              rw [refl_adj (Ne.symm hts) (by rw [adj_comm]; exact ha)]
              rw [ha, Bool.true_and] at hf'
              exact (pos_both h3 k u hk' hin' hr').1 s hs hf'
            | false =>
              have e : (one s) = two s t 1 0 := by
                funext i
                unfold one two
                simp
              rw [e, refl_two (Ne.symm hts) (by rw [adj_comm]; exact ha) hs]
              exact (pos_both h3 k u hk' hin' hr').2 t s _ _ ht hs hts ha hft (by omega) (by omega)
    refine ⟨A, fun s t x y hs ht hne ha hf hy hxy => ?_⟩
    cases q : front n t u with
    | false =>
      rw [two_comb, actR_comb]
      exact nn_comb (by omega) hy (A s hs hf) (A t ht q)
    | true =>
      have hl := front_len q
      cases k with
      | zero => omega
      | succ k =>
        rw [actR_front q, refl_two hne ha hs]
        obtain ⟨h1, h2⟩ := red_erase hr q
        exact (pos_both h3 k _ (by omega) (inR_erase hin) h1).2 t s _ _ ht hs (Ne.symm hne) (by rw [adj_comm]; exact ha) h2 (by omega) (by omega)
theorem pos_of (h3 : 3 ≤ n) (hin : inR n u) (hr : Red n u) (hs : 0 ≤ s ∧ s < n) (hf : front n s u = false) : nn (actR n u (one s)) := (pos_both h3 _ u (Nat.le_refl _) hin hr).1 s hs hf
theorem neg_of (h3 : 3 ≤ n) (hin : inR n u) (hr : Red n u) (hs : 0 ≤ s ∧ s < n) (hf : front n s u = true) : ∀ i, actR n u (one s) i ≤ 0 := by
  intro i
  rw [actR_front hf, refl_self h3, actR_comb]
  obtain ⟨h1, h2⟩ := red_erase hr hf
  have := pos_of h3 (inR_erase hin) h1 hs h2 i
  unfold comb
  omega
theorem actR_zero : actR n u (fun _ => 0) = fun _ => 0 := by
  have e : (fun _ => 0 : Vec) = comb 0 (fun _ => 0) 0 (fun _ => 0) := by funext i; simp [comb]
  rw [e, actR_comb]
  funext i
  simp [comb]
/-- a side can be moved to the end just if its form is nowhere above nothing -/
theorem front_form (h3 : 3 ≤ n) (hin : inR n u) (hr : Red n u) (hs : 0 ≤ s ∧ s < n) : front n s u = true ↔ ∀ i, actR n u (one s) i ≤ 0 := by
  refine ⟨neg_of h3 hin hr hs, fun h => ?_⟩
  cases q : front n s u with
  | true => rfl
  | false =>
    have h2 := pos_of h3 hin hr hs q
    have e : actR n u (one s) = fun _ => 0 := by
      funext i
      have := h i
      have := h2 i
      omega
    have e2 := actR_inv (n := n) (u := u) (v := one s)
    rw [e, actR_zero] at e2
    have := congrFun e2 s
    simp [one] at this
end
end Mt

set_option Elab.async false
set_option linter.all false
set_option autoImplicit false
/-! Normal forms: one word for each cell. -/
namespace Mt
def act (n : Int) : Wrd → Vec → Vec
  | [], v => v
  | a :: w, v => refl n a (act n w v)
section
variable {n a b s t : Int} {w u : Wrd} {v v' : Vec}
theorem act_append : ∀ {u w : Wrd} {v : Vec}, act n (u ++ w) v = act n u (act n w v)
  | [], _, _ => rfl
  | a :: u, w, v => congrArg (refl n a) (act_append (u := u))
theorem act_eq : ∀ {w : Wrd} {v : Vec}, act n w v = actR n w.reverse v
  | [], _ => rfl
  | a :: w, v => by
    rw [List.reverse_cons, actR_append]
    exact congrArg (refl n a) act_eq
theorem act_rev : act n w.reverse (act n w v) = v := by
  rw [act_eq, act_eq, List.reverse_reverse]
  exact actR_inv'
theorem act_rev' : act n w (act n w.reverse v) = v := by
  have := act_rev (n := n) (w := w.reverse) (v := v)
  rwa [List.reverse_reverse] at this
theorem act_rev_congr (h : act n u = act n w) : act n u.reverse = act n w.reverse := by
  funext v
  have e : v = act n u (act n w.reverse v) := by rw [h]; exact act_rev'.symm
  conv => lhs; rw [e]
  exact act_rev
theorem act_pull : ∀ {y : Wrd} {v : Vec}, (∀ b ∈ y, b ≠ a ∧ adj n b a = true) → act n y (refl n a v) = refl n a (act n y v)
  | [], _, _ => rfl
  | b :: y, v, h => by
    show refl n b (act n y (refl n a v)) = refl n a (refl n b (act n y v))
    have h1 := h b List.mem_cons_self
    rw [act_pull fun c hc => h c (List.mem_cons_of_mem _ hc), refl_comm h1.2 h1.1]
theorem act_front (h : front n a w = true) : act n w v = refl n a (act n (w.erase a) v) := by
  obtain ⟨y, z, e, hy, he⟩ := front_iff.mp h
  rw [he, e, act_append, act_append]
  show act n y (refl n a (act n z v)) = _
  rw [act_pull hy]
theorem act_front' (h : front n a w = true) : act n (w.erase a) = act n (a :: w) := by
  funext v
  show _ = refl n a (act n w v)
  rw [act_front h, refl_refl]
theorem inR_rev (h : inR n w) : inR n w.reverse := fun b hb => h b (List.mem_reverse.mp hb)
theorem inR_append (h : inR n u) (h' : inR n w) : inR n (u ++ w) := fun b hb => (List.mem_append.mp hb).elim (h b) (h' b)
theorem front_act (h3 : 3 ≤ n) (hin : inR n w) (hr : Red n w) (hs : 0 ≤ s ∧ s < n) : front n s w = true ↔ ∀ i, act n w.reverse (one s) i ≤ 0 := by
  rw [act_eq, List.reverse_reverse]
  exact front_form h3 hin hr hs
theorem front_same (h3 : 3 ≤ n) (hu : inR n u) (hw : inR n w) (ru : Red n u) (rw' : Red n w) (h : act n u = act n w) (hs : 0 ≤ s ∧ s < n) : front n s u = front n s w := by
  have e := act_rev_congr h
  cases q : front n s w with
  | true =>
    rw [front_act h3 hw rw' hs, ← e] at q
    exact (front_act h3 hu ru hs).mpr q
  | false =>
    cases q2 : front n s u with
    | false => rfl
    | true =>
      rw [front_act h3 hu ru hs, e] at q2
      rw [(front_act h3 hw rw' hs).mpr q2] at q
      cases q
theorem front_head : front n a (a :: w) = true := by
  show (if a = a then true else _) = true
  rw [if_pos rfl]

/-! ### the least side that can be moved to the front -/
def pick (n : Int) (w : Wrd) : Int := ((w.filter fun a => front n a w).min?).getD 0
theorem pick_spec (h : w ≠ []) : front n (pick n w) w = true ∧ ∀ a, front n a w = true → pick n w ≤ a := by
  obtain ⟨b, w', rfl⟩ := List.exists_cons_of_ne_nil h
  have hb : b ∈ (b :: w').filter fun a => front n a (b :: w') := List.mem_filter.mpr ⟨List.mem_cons_self, front_head⟩
  unfold pick
  cases q : ((b :: w').filter fun a => front n a (b :: w')).min? with
  | none =>
    rw [List.min?_eq_none_iff] at q
    rw [q] at hb
    cases hb
  | some m =>
    obtain ⟨h1, h2⟩ := List.min?_eq_some_iff.mp q
    exact ⟨(List.mem_filter.mp h1).2, fun a ha => h2 a (List.mem_filter.mpr ⟨front_mem ha, ha⟩)⟩
theorem pick_eq (h : w ≠ []) (h1 : front n a w = true) (h2 : ∀ b, front n b w = true → a ≤ b) : pick n w = a := by
  obtain ⟨q1, q2⟩ := pick_spec (n := n) h
  have := q2 a h1
  have := h2 _ q1
  omega
theorem pick_mem (h : w ≠ []) : pick n w ∈ w := front_mem (pick_spec h).1
def formF (n : Int) : Nat → Wrd → Wrd
  | 0, _ => []
  | _ + 1, [] => []
  | k + 1, a :: w => pick n (a :: w) :: formF n k ((a :: w).erase (pick n (a :: w)))
def form (n : Int) (w : Wrd) : Wrd := formF n w.length w
theorem formF_nil {k : Nat} : formF n k [] = [] := by cases k <;> rfl
theorem formF_cons {k : Nat} (h : w ≠ []) : formF n (k + 1) w = pick n w :: formF n k (w.erase (pick n w)) := by
  obtain ⟨b, w', rfl⟩ := List.exists_cons_of_ne_nil h
  rfl
theorem formF_fuel : ∀ {k : Nat} {w : Wrd}, w.length ≤ k → formF n k w = formF n w.length w
  | 0, w, h => by
    have : w = [] := List.length_eq_zero_iff.mp (by omega)
    subst this; rfl
  | k + 1, [], h => rfl
  | k + 1, a :: w, h => by
    have hn : a :: w ≠ [] := by simp
    have hl := front_len (pick_spec (n := n) hn).1
    have h' : (a :: w).length ≤ k + 1 := h
    rw [formF_cons hn, formF_fuel (k := k) (by omega)]
    rw [← hl, formF_cons hn]
theorem form_nil : form n [] = [] := rfl
theorem form_cons (h : w ≠ []) : form n w = pick n w :: form n (w.erase (pick n w)) := by
  have hl := front_len (pick_spec (n := n) h).1
  unfold form
  rw [← hl, formF_cons h]
theorem form_ind {P : Wrd → Prop} (h0 : P []) (h1 : ∀ w, w ≠ [] → P (w.erase (pick n w)) → P w) (w : Wrd) : P w := by
  have : ∀ k (w : Wrd), w.length ≤ k → P w := by
    intro k
    induction k with
    | zero =>
      intro w h
      have : w = [] := List.length_eq_zero_iff.mp (by omega)
      subst this; exact h0
    | succ k ih =>
      intro w h
      by_cases e : w = []
      · subst e; exact h0
      · have hl := front_len (pick_spec (n := n) e).1
        exact h1 w e (ih _ (by omega))
  exact this _ w (Nat.le_refl _)
theorem act_form (w : Wrd) : act n (form n w) = act n w := by
  refine form_ind (n := n) (P := fun w => act n (form n w) = act n w) rfl (fun w h ih => ?_) w
  funext v
  rw [form_cons h]
  show refl n _ (act n (form n _) v) = _
  rw [ih, act_front (pick_spec h).1]
theorem form_len (w : Wrd) : (form n w).length = w.length := by
  refine form_ind (n := n) (P := fun w => (form n w).length = w.length) rfl (fun w h ih => ?_) w
  rw [form_cons h, List.length_cons, ih]
  exact front_len (pick_spec h).1
theorem mem_form {b : Int} (w : Wrd) : b ∈ form n w → b ∈ w := by
  refine form_ind (n := n) (P := fun w => b ∈ form n w → b ∈ w) (fun h => h) (fun w h ih => ?_) w
  rw [form_cons h]
  intro hb
  rcases List.mem_cons.mp hb with q | q
  · rw [q]; exact pick_mem h
  · exact List.mem_of_mem_erase (ih q)
theorem inR_form (h : inR n w) : inR n (form n w) := fun b hb => h b (mem_form w hb)
theorem red_form (h3 : 3 ≤ n) (w : Wrd) : inR n w → Red n w → Red n (form n w) := by
  refine form_ind (n := n) (P := fun w => inR n w → Red n w → Red n (form n w)) (fun _ h => h) (fun w h ih hin hr => ?_) w
  obtain ⟨h1, h2⟩ := red_erase hr (pick_spec h).1
  have r := ih (inR_erase hin) h1
  rw [form_cons h]
  refine red_cons.mpr ⟨?_, r⟩
  rw [front_same h3 (inR_form (inR_erase hin)) (inR_erase hin) r h1 (act_form _) (hin _ (pick_mem h))]
  exact h2
theorem form_uniq (h3 : 3 ≤ n) (u : Wrd) : ∀ w, inR n u → inR n w → Red n u → Red n w → act n u = act n w → form n u = form n w := by
  refine form_ind (n := n) (P := fun u => ∀ w, inR n u → inR n w → Red n u → Red n w → act n u = act n w → form n u = form n w) ?_ (fun u h ih => ?_) u
  · intro w hu hw ru rw' e
    cases w with
    | nil => rfl
    | cons b w =>
      have := front_same h3 hu hw ru rw' e (hw b List.mem_cons_self)
      rw [front_head] at this
      cases this
  · intro w hu hw ru rw' e
    have hw0 : w ≠ [] := by
      rintro rfl
      have := front_same h3 hu hw ru rw' e (hu _ (pick_mem (n := n) h))
      rw [(pick_spec h).1] at this
      cases this
    obtain ⟨p1, p2⟩ := pick_spec (n := n) h
    have f1 : front n (pick n u) w = true := by rw [← front_same h3 hu hw ru rw' e (hu _ (pick_mem (n := n) h))]; exact p1
    have ep : pick n w = pick n u := pick_eq hw0 f1 fun b hb => p2 b (by
      rw [front_same h3 hu hw ru rw' e (hw _ (front_mem hb))]; exact hb)
    rw [form_cons h, form_cons hw0, ep]
    congr 1
    refine ih _ (inR_erase hu) (inR_erase hw) (red_erase ru p1).1 (red_erase rw' f1).1 ?_
    rw [act_front' p1, act_front' f1]
    funext v
    show refl n _ (act n u v) = refl n _ (act n w v)
    rw [e]
end

/-- a cell, told by its normal form -/
structure NF (n : Int) (c : Wrd) : Prop where
  ir : inR n c
  red : Red n c
  fm : form n c = c
section
variable {n a b s t : Int} {w u c d : Wrd} {v v' : Vec}
theorem nf_form (h3 : 3 ≤ n) (hin : inR n w) (hr : Red n w) : NF n (form n w) := ⟨inR_form hin, red_form h3 w hin hr, form_uniq h3 _ _ (inR_form hin) hin (red_form h3 w hin hr) hr (act_form w)⟩
theorem nf_nil : NF n [] := ⟨fun a h => (by cases h), red_nil, rfl⟩
theorem NF.ext (h3 : 3 ≤ n) (hc : NF n c) (hd : NF n d) (h : act n c = act n d) : c = d := by
  rw [← hc.fm, ← hd.fm]
  exact form_uniq h3 _ _ hc.ir hd.ir hc.red hd.red h
/-- through one side -/
def crs (n : Int) (c : Wrd) (s : Int) : Wrd := if front n s c.reverse = true then form n (c.reverse.erase s).reverse else form n (c ++ [s])
theorem crs_both (h3 : 3 ≤ n) (hin : inR n c) (hr : Red n c) (hs : 0 ≤ s ∧ s < n) : NF n (crs n c s) ∧ act n (crs n c s) = act n (c ++ [s]) := by
  unfold crs
  split
  · rename_i q
    have h1 := red_erase (red_rev.mpr hr) q
    have hi := inR_rev (inR_erase (a := s) (inR_rev hin))
    refine ⟨nf_form h3 hi (red_rev.mpr h1.1), ?_⟩
    rw [act_form]
    have e := act_rev_congr (act_front' q)
    rw [e, List.reverse_cons, List.reverse_reverse]
  · rename_i q
    have hi : inR n (c ++ [s]) := inR_append hin fun b hb => by rw [List.mem_singleton.mp hb]; exact hs
    have hr' : Red n (c ++ [s]) := red_snoc.mpr ⟨by simpa using q, hr⟩
    exact ⟨nf_form h3 hi hr', act_form _⟩
theorem NF.crs (h3 : 3 ≤ n) (h : NF n c) (hs : 0 ≤ s ∧ s < n) : NF n (crs n c s) := (crs_both h3 h.ir h.red hs).1
theorem act_crs (h3 : 3 ≤ n) (h : NF n c) (hs : 0 ≤ s ∧ s < n) : act n (crs n c s) = act n (c ++ [s]) := (crs_both h3 h.ir h.red hs).2
theorem crs_len : (Mt.crs n c s).length = if front n s c.reverse = true then c.length - 1 else c.length + 1 := by
  unfold Mt.crs
  split
  · rename_i q
    rw [form_len, List.length_reverse]
    have := front_len q
    rw [List.length_reverse] at this
    omega
  · rw [form_len, List.length_append]; rfl
theorem crs_par : (Mt.crs n c s).length % 2 = (c.length + 1) % 2 := by
  rw [crs_len]
  split
  · rename_i q
    have := front_len q
    rw [List.length_reverse] at this
    omega
  · rfl
/-- through one side after the other -/
def tms (n : Int) (c w : Wrd) : Wrd := w.foldl (Mt.crs n) c
theorem tms_nil : tms n c [] = c := rfl
theorem tms_cons : tms n c (s :: w) = tms n (Mt.crs n c s) w := rfl
theorem tms_append : tms n c (u ++ w) = tms n (tms n c u) w := List.foldl_append
theorem tms_both (h3 : 3 ≤ n) : ∀ {w c : Wrd}, NF n c → inR n w → NF n (tms n c w) ∧ act n (tms n c w) = act n (c ++ w)
  | [], c, h, _ => ⟨h, by rw [List.append_nil]; rfl⟩
  | s :: w, c, h, hw => by
    obtain ⟨hs, hw'⟩ := inR_cons.mp hw
    obtain ⟨h1, h2⟩ := tms_both h3 (NF.crs h3 h hs) hw'
    refine ⟨h1, ?_⟩
    rw [tms_cons, h2]
    funext v
    rw [act_append, act_crs h3 h hs, ← act_append, List.append_assoc]
    rfl
theorem NF.tms (h3 : 3 ≤ n) (h : NF n c) (hw : inR n w) : NF n (tms n c w) := (tms_both h3 h hw).1
theorem act_tms (h3 : 3 ≤ n) (h : NF n c) (hw : inR n w) : act n (Mt.tms n c w) = act n (c ++ w) := (tms_both h3 h hw).2
theorem tms_par : ∀ {w c : Wrd}, (Mt.tms n c w).length % 2 = (c.length + w.length) % 2
  | [], c => rfl
  | s :: w, c => by
    rw [tms_cons, tms_par, List.length_cons]
    have := crs_par (n := n) (c := c) (s := s)
    omega
/-- the cell of a word -/
def nf (n : Int) (w : Wrd) : Wrd := Mt.tms n [] w
theorem nf_nf (h3 : 3 ≤ n) (hw : inR n w) : NF n (nf n w) := NF.tms h3 nf_nil hw
theorem act_nf (h3 : 3 ≤ n) (hw : inR n w) : act n (nf n w) = act n w := act_tms h3 nf_nil hw
theorem nf_self (h3 : 3 ≤ n) (h : NF n c) : nf n c = c := NF.ext h3 (nf_nf h3 h.ir) h (act_nf h3 h.ir)
theorem nf_red (h3 : 3 ≤ n) (hin : inR n w) (hr : Red n w) : nf n w = form n w := NF.ext h3 (nf_nf h3 hin) (nf_form h3 hin hr) (by rw [act_nf h3 hin, act_form])
theorem nf_eq (h3 : 3 ≤ n) (hu : inR n u) (hw : inR n w) : nf n u = nf n w ↔ act n u = act n w := by
  constructor
  · intro h
    rw [← act_nf h3 hu, h, act_nf h3 hw]
  · intro h
    exact NF.ext h3 (nf_nf h3 hu) (nf_nf h3 hw) (by rw [act_nf h3 hu, act_nf h3 hw, h])
theorem tms_eq_nf (h3 : 3 ≤ n) (h : NF n c) (hw : inR n w) : Mt.tms n c w = nf n (c ++ w) := NF.ext h3 (NF.tms h3 h hw) (nf_nf h3 (inR_append h.ir hw)) (by rw [act_tms h3 h hw, act_nf h3 (inR_append h.ir hw)])
theorem act_cancel (h : act n (c ++ u) = act n (c ++ w)) : act n u = act n w := by
  funext v
  have e := congrArg (act n c.reverse) (congrFun h v)
  rwa [act_append, act_append, act_rev, act_rev] at e
theorem act_left (h : act n u = act n w) : act n (c ++ u) = act n (c ++ w) := by
  funext v
  rw [act_append, act_append, h]
/-- what words do is the same from every cell -/
theorem tms_iff (h3 : 3 ≤ n) (h : NF n c) (hu : inR n u) (hw : inR n w) : Mt.tms n c u = Mt.tms n c w ↔ nf n u = nf n w := by
  rw [nf_eq h3 hu hw]
  constructor
  · intro q
    have e := act_tms h3 h hu
    rw [q, act_tms h3 h hw] at e
    exact act_cancel e.symm
  · intro q
    exact NF.ext h3 (NF.tms h3 h hu) (NF.tms h3 h hw) (by rw [act_tms h3 h hu, act_tms h3 h hw]; exact act_left q)
theorem tms_self (h3 : 3 ≤ n) (h : NF n c) (hu : inR n u) : Mt.tms n c u = c ↔ nf n u = [] := tms_iff h3 h hu (w := []) fun a ha => (by cases ha)
theorem tms_tms (h3 : 3 ≤ n) (h : NF n c) (hu : inR n u) : Mt.tms n c (nf n u) = Mt.tms n c u := (tms_iff h3 h (nf_nf h3 hu).ir hu).mpr (nf_self h3 (nf_nf h3 hu))
/-- back -/
def bk (n : Int) (c : Wrd) : Wrd := form n c.reverse
theorem NF.bk (h3 : 3 ≤ n) (h : NF n c) : NF n (bk n c) := nf_form h3 (inR_rev h.ir) (red_rev.mpr h.red)
theorem act_bk : act n (Mt.bk n c) = act n c.reverse := act_form _
theorem bk_len : (Mt.bk n c).length = c.length := by unfold Mt.bk; rw [form_len, List.length_reverse]
/-- from one cell to the other -/
def way (n : Int) (a b : Wrd) : Wrd := Mt.tms n (Mt.bk n a) b
theorem way_eq (h3 : 3 ≤ n) (ha : NF n c) (hb : NF n d) : way n c d = nf n (c.reverse ++ d) := by
  refine NF.ext h3 (NF.tms h3 (NF.bk h3 ha) hb.ir) (nf_nf h3 (inR_append (inR_rev ha.ir) hb.ir)) ?_
  unfold way
  rw [act_tms h3 (NF.bk h3 ha) hb.ir, act_nf h3 (inR_append (inR_rev ha.ir) hb.ir)]
  funext v
  rw [act_append, act_append, act_bk]
theorem way_tms (h3 : 3 ≤ n) (hc : NF n c) (hw : inR n w) : way n c (Mt.tms n c w) = nf n w := by
  rw [way_eq h3 hc (NF.tms h3 hc hw), nf_eq h3 (inR_append (inR_rev hc.ir) (NF.tms h3 hc hw).ir) hw]
  funext v
  rw [act_append, act_tms h3 hc hw, act_append, act_rev]
theorem tms_way (h3 : 3 ≤ n) (hc : NF n c) (hd : NF n d) : Mt.tms n c (way n c d) = d := by
  have hw := inR_append (inR_rev hc.ir) hd.ir
  rw [way_eq h3 hc hd, tms_tms h3 hc hw]
  refine NF.ext h3 (NF.tms h3 hc hw) hd ?_
  rw [act_tms h3 hc hw]
  funext v
  rw [act_append, act_append, act_rev']
end

/-! ### words none of whose sides meets the next one -/
def stiff (n : Int) : Wrd → Prop
  | [] => True
  | [_] => True
  | a :: b :: w => a ≠ b ∧ adj n a b = false ∧ stiff n (b :: w)
section
variable {n a b : Int} {w : Wrd}
theorem stiff_tail (h : stiff n (a :: w)) : stiff n w := by
  cases w with
  | nil => trivial
  | cons b w => exact h.2.2
theorem stiff_front : ∀ {w : Wrd} {a b : Int}, stiff n (a :: w) → (front n b (a :: w) = true ↔ b = a)
  | w, a, b, h => by
    constructor
    · intro q
      have q' : (if a = b then true else adj n a b && front n b w) = true := q
      by_cases e : a = b
      · exact e.symm
      · rw [if_neg e, Bool.and_eq_true] at q'
        exfalso
        cases w with
        | nil => exact absurd q'.2 (by simp [front])
        | cons d w =>
          obtain ⟨h1, h2, h3⟩ := h
          have := (stiff_front h3 (b := b)).mp q'.2
          subst this
          rw [h2] at q'
          exact absurd q'.1 (by simp)
    · rintro rfl
      exact front_head
theorem stiff_red : ∀ {w : Wrd}, stiff n w → Red n w
  | [], _ => red_nil
  | [a], _ => red_cons.mpr ⟨rfl, red_nil⟩
  | a :: b :: w, h => red_cons.mpr ⟨by
      cases q : front n a (b :: w) with
      | false => rfl
      | true => exact absurd ((stiff_front h.2.2).mp q) h.1, stiff_red h.2.2⟩
theorem stiff_form : ∀ {w : Wrd}, stiff n w → form n w = w
  | [], _ => rfl
  | a :: w, h => by
    have hp : pick n (a :: w) = a := pick_eq (by simp) front_head fun b hb => by rw [(stiff_front h).mp hb]; exact Int.le_refl _
    rw [form_cons (by simp), hp, List.erase_cons_head, stiff_form (stiff_tail h)]
theorem stiff_nf (hin : inR n w) (h : stiff n w) : NF n w := ⟨hin, stiff_red h, stiff_form h⟩
end
end Mt

set_option Elab.async false
set_option linter.all false
set_option maxRecDepth 100000
set_option maxHeartbeats 4000000
set_option autoImplicit false
/-! What the pool's defs promise. -/
namespace Wd
open PySem PyProof.Rows L2 Mt
theorem monoT_lift {B : FT} : MonoT (wLT B) := fun ρ P P' h ⟨b, e, k⟩ => ⟨b, e, h _ _ k⟩
theorem monoT_test {W : EW} (m : MonoE W) : MonoT (wTest W) := fun ρ P P' h k => m ρ _ _ (fun d ρ1 ⟨b, e, q⟩ => ⟨b, e, h _ _ q⟩) k
theorem monoA_rng {A : AW} (m : MonoA A) : MonoA (wRng1 A) := fun ρ P P' h k => m ρ _ _ (fun d ρ1 ⟨n, e, e2, q⟩ => ⟨n, e, e2, h _ _ q⟩) k
theorem monoE_lc {i : Nat} {L : AW} {vs : List Nat} {f : D → Env → Option Env} {T : TW} {E : EW} (m : MonoA L) : MonoE (wLc i L vs f T E) := fun ρ P P' h k => m ρ _ _ (fun ds ρ1 ⟨p, pds, Ψ, e1, e2, e3, e4, e5, q⟩ => ⟨p, pds, Ψ, e1, e2, e3, e4, e5, fun os pds' a b => h _ _ (q os pds' a b)⟩) k
def R__law_draw : PR := fun ds Φ => ∃ m : Int, ds = [.int m] ∧ 0 < m ∧ m < 1073741824 ∧ ∀ r : Int, 0 ≤ r → r < m → Φ (.int r)
def R__law_word : PR := fun ds Φ => ∃ n most : Int, ds = [.int n, .int most] ∧ 0 < n ∧ n ≤ 1000 ∧ 0 ≤ most ∧ most ≤ 900 ∧ ∀ w : Wrd, inR n w → (w.length : Int) ≤ most → Φ (kT w)
def R__law_cell : PR := fun ds Φ => ∃ n most : Int, ds = [.int n, .int most] ∧ 3 ≤ n ∧ n ≤ 1000 ∧ 0 ≤ most ∧ most ≤ 900 ∧ ∀ c : Wrd, NF n c → (c.length : Int) ≤ most → Φ (kT c)
def R__law_pick : PR := fun ds Φ => ∃ xs : List D, (ds = [.list xs] ∨ ds = [.tuple xs]) ∧ 0 < xs.length ∧ xs.length ≤ 100000 ∧ ∀ x ∈ xs, Φ x
def R__law_sides : PR := fun ds Φ => ds = [] ∧ ∀ n : Int, n = 5 ∨ n = 6 ∨ n = 7 ∨ n = 9 → Φ (.int n)
theorem monoR__law_draw : MonoR R__law_draw := fun ds P P' h ⟨m, e, e1, e2, k⟩ => ⟨m, e, e1, e2, fun r a b => h _ (k r a b)⟩
theorem monoR__law_word : MonoR R__law_word := fun ds P P' h ⟨n, m, e, e1, e2, e3, e4, k⟩ => ⟨n, m, e, e1, e2, e3, e4, fun w a b => h _ (k w a b)⟩
theorem monoR__law_cell : MonoR R__law_cell := fun ds P P' h ⟨n, m, e, e1, e2, e3, e4, k⟩ => ⟨n, m, e, e1, e2, e3, e4, fun w a b => h _ (k w a b)⟩
theorem monoR__law_pick : MonoR R__law_pick := fun ds P P' h ⟨xs, e, e1, e2, k⟩ => ⟨xs, e, e1, e2, fun w a => h _ (k w a)⟩
theorem monoR__law_sides : MonoR R__law_sides := fun ds P P' h ⟨e, k⟩ => ⟨e, fun n a => h _ (k n a)⟩
end Wd

set_option Elab.async false
set_option linter.all false
set_option maxRecDepth 100000
set_option maxHeartbeats 4000000
set_option autoImplicit false
/-! The law's own def: the pool is made, then drawn from. -/
namespace Wd
open PySem PyProof.Rows L2
section
variable {P : Program} {w : World} {K : PySem.W.Frag} {mg : Str → Option Value} {base : Heap}
theorem cal_none {x qual : Str} {st : Stmt} {f : Addr} {fd : FuncData} {M ps : List Str} {k : Nat} (F : Fun K x qual st f fd) (S : FnScope M ps (defScope st)) (gm : mg x = some (.ref f)) (b : Binds K fd ps []) : Cal P w K mg base x (k + 1) fun _ => none := by
  refine ⟨f, fd, ps, F.ok S (fun vs H Q E h => ?_) (fun cdv A outer s H vs Q E hr h => ?_), gm, F.kp, b⟩
  · obtain ⟨S', ds, d, al, o, e, q⟩ := h
    cases e
  · obtain ⟨S', ds, d, al, o, e, q⟩ := h
    cases e
/-- a new pool -/
def spNew (K : PySem.W.Frag) : Sp := fun vs H Q _ => ∃ (a : Addr) (ns : List Int), vs = [.ref a] ∧ SqL K H a (ns.map V.int) ∧ ns.length ≤ 63 ∧
  ∀ (p : Addr) (pv : List V) (pds : List D) (H' : Hp), Ex H H' → H p = none → H' p = some (.lst pv) → DaAll (cut H' fun a => a = p) pv pds → PoolOk pds → Q (.ref p) H'
def spLaw (K : PySem.W.Frag) : Sp := fun vs H Q _ => ∃ (a : Addr) (ns : List Int), vs = [.ref a] ∧ SqL K H a (ns.map V.int) ∧ ns.length ≤ 63 ∧ ∀ H', Q (.bl true) H'
/-- the law's slots behind the first line -/
def startL (m : Nat) (p : Addr) (es : List D) : Env := none :: some (.pin p es) :: List.replicate m none
theorem law_ok {x qual : Str} {st : Stmt} {f : Addr} {fd : FuncData} {M : List Str} {k : Nat} {W : FW} (F : Fun K x qual st f fd) (S : FnScope ("script" :: "pool" :: M) ["script"] (defScope st)) (m : Mono W)
    (hbody : ∀ (cdv : Value) (A : Around) (outer : List PySem.Env) (s : Shared) (H : Hp) (E : XK), Room k (A.deeper (envOfC qual (defScope st) s.heap.objs.size f cdv)) → ∃ t, PSs (cxOf CX0 P w K mg base ("script" :: "pool" :: M) qual (defScope st) f cdv A outer s H E).nox (defBody st) (tSeq (tAsg (tCall (spNew K) [] E0 (tCons (tVar 0) tNil)) (gName 1)) t) ∧ SW t W)
    (hW : ∀ (p : Addr) (es : List D), PoolOk es → W (startL M.length p es) fun o => ∃ ρ', o = .rt (.bool true) ρ') :
    FnOk P w K mg base CX0 (k + 1) f fd ["script"] (spLaw K) := by
  refine F.ok S (fun vs H Q E h => ?_) (fun cdv A outer s H vs Q E hr h => ?_)
  · obtain ⟨a, ns, rfl, _⟩ := h
    rfl
  · obtain ⟨a, ns, rfl, hS, hl, kq⟩ := h
    obtain ⟨t, hp, ht⟩ := hbody cdv A outer s H E hr
    refine ⟨_, hp, ?_⟩
    refine ⟨.ref a, rfl, a, ns, rfl, hS, hl, fun p pv pds H' x0 hpn hp' hd po => ?_⟩
    have R : RelE (fun _ => False) (fun a => a = p) H' ((L2.start ("script" :: "pool" :: M) [V.ref a]).set 1 (some (.ref p))) (startL M.length p pds) := by
      refine ⟨?_, fun i c e => ?_, fun b z => ?_, fun b z => z.elim, fun i j ci cj b n ei ej mi mj si sj => ?_⟩
      · unfold L2.start startL
        simp
      · match i, e with
        | 0, e => cases e
        | 1, e =>
          have e' : some (some (Cell.pin p pds)) = some (some c) := e
          obtain rfl := Option.some.inj (Option.some.inj e')
          exact ⟨.ref p, rfl, pv, rfl, rfl, fun z => z, hp', hd⟩
        | i + 2, e =>
          have e' : (List.replicate M.length (none : Option Cell))[i]? = some (some c) := e
          rw [List.getElem?_replicate] at e'
          split at e' <;> cases e'
      · rw [z]; exact .inl ⟨pv, hp'⟩
      · have z : ∀ (i : Nat) (c : Cell), (startL M.length p pds)[i]? = some (some c) → i = 1 := fun i c e => by
          match i, e with
          | 0, e => cases e
          | 1, e => rfl
          | i + 2, e =>
            have e' : (List.replicate M.length (none : Option Cell))[i]? = some (some c) := e
            rw [List.getElem?_replicate] at e'
            split at e' <;> cases e'
        exact n ((z i ci ei).trans (z j cj ej).symm)
    refine ht (fun _ => False) H (fun a => a = p) H' _ _ _ ⟨R, x0, fun b z _ => by rw [z]; exact hpn⟩ (m _ _ _ (fun o ho => ?_) (hW p pds po))
    obtain ⟨ρ', rfl⟩ := ho
    intro S2 H2 σ2 v R2 o2
    cases o2
    exact kq H2
end
end Wd

set_option Elab.async false
set_option linter.all false
set_option maxRecDepth 100000
set_option maxHeartbeats 4000000
set_option autoImplicit false
/-! The pool is made. -/
namespace Wd
open PySem PyProof.Rows L2
def tPool (K : PySem.W.Frag) : TS := tSeq (tAsg (tC (.int 7)) (gName 1)) (tSeq (tFor (iSeq K (tSl (rSlL K) (tVar 0) tNoPart (tPart (tC (.int 63))))) (gName 2)
  (tAsg (tOp (rI (fun _ j => 0 < j) fun i j => .int (i % j)) (tCB rInt1 (tCons (tOp (rI0 fun i j => .int (i + j)) (tOp (rI CMul fun i j => .int (i * j)) (tVar 1) (tC (.int 31))) (tVar 2)) tNil)) (tC (.int 1000003))) (gName 1)))
  (tRet (tLst (tCons (tCB (rList1 K) (tCons (tVar 0) tNil)) (tCons (tC (.int 0)) (tCons (tC (.int 0)) (tCons (tC (.int 0)) (tCons (tVar 1) tNil))))))))
theorem SqL.more {K : PySem.W.Frag} {H H' : Hp} {a : Addr} {xs : List V} (e : Ex H H') (h : SqL K H a xs) : SqL K H' a xs :=
  h.elim (fun h => .inl (h.elim (fun h => .inl (e _ _ h)) fun ⟨o, h⟩ => .inr ⟨o, e _ _ h⟩)) fun h => .inr h
theorem read_pool {K : PySem.W.Frag} {E : Ends} {H : Hp} {a : Addr} {ns : List Int} (hS : SqL K H a (ns.map V.int)) (hl : ns.length ≤ 63)
    (k : ∀ (p : Addr) (pv : List V) (pds : List D) (H' : Hp), Ex H H' → H p = none → H' p = some (.lst pv) → DaAll (cut H' fun a => a = p) pv pds → PoolOk pds → E.rt (.ref p) H') : tPool K E [some (.ref a), none, none] H := by
  show (tSeq _ _) E [some (.ref a), some (.int 7), none] H
  refine ⟨.ref a, rfl, 63, rfl, a, _, rfl, hS, fun q hq => ?_⟩
  have x1 : Ex H (upd H q (.lst (cutV (ns.map V.int) none (some 63)))) := Evl.Ex.new hq
  refine .inl ⟨q, _, rfl, upd_same, ?_⟩
  have hints : ∀ (i : Nat) (x : V), (cutV (ns.map V.int) none (some 63))[i]? = some x → ∃ z, x = .int z := fun i x e => by
    have hm := List.mem_of_getElem? e
    have hm2 : x ∈ ns.map V.int := List.mem_of_mem_drop (List.mem_of_mem_take hm)
    obtain ⟨z, _, rfl⟩ := List.mem_map.mp hm2
    exact ⟨z, rfl⟩
  generalize cutV (ns.map V.int) none (some 63) = xs at x1 hints
  refine ⟨fun i m σ' H' => m = xs.length - i ∧ i ≤ xs.length ∧ H' = upd H q (.lst xs) ∧ ∃ (s : Int) (c : Option V), σ' = [some (.ref a), some (.int s), c], ⟨xs.length, by simp, Nat.zero_le _, rfl, 7, none, rfl⟩, ?_⟩
  rintro i m σ' H' ⟨rfl, hile, rfl, s, c, rfl⟩
  obtain ⟨ygo, yst⟩ := yld_list (K := K) (a := q) (vs := xs) (H := upd H q (.lst xs)) upd_same
  by_cases hlt : i < xs.length
  · obtain ⟨x, hx⟩ : ∃ x, xs[i]? = some x := ⟨xs[i], List.getElem?_eq_getElem hlt⟩
    obtain ⟨z, rfl⟩ := hints i x hx
    obtain ⟨g1, g2⟩ := ygo i _ hx
    refine .inr ⟨g1, fun σ2 H2 => H2 = upd H q (.lst xs) ∧ ∃ (s : Int) (c : Option V), σ2 = [some (.ref a), some (.int s), c], fun σ2 H2 ⟨y1, y2⟩ => ⟨xs.length - (i + 1), by omega, rfl, hlt, y1, y2⟩, fun x'' H'' hy => ?_⟩
    obtain ⟨rfl, rfl⟩ := g2 x'' H'' hy
    refine ⟨_, rfl, s, 31, rfl, rfl, .inr ⟨by decide, by decide⟩, _, rfl, _, _, rfl, rfl, ?_⟩
    exact .inl ⟨_, rfl, _, _, rfl, rfl, (show (0 : Int) < 1000003 by decide), rfl, _, _, rfl⟩
  · refine .inl ⟨yst i (by omega), ?_⟩
    refine ⟨_, rfl, a, _, rfl, .inl (SqL.more x1 hS), fun l hl2 => ?_⟩
    have x2 : Ex (upd H q (.lst xs)) (upd (upd H q (.lst xs)) l (.lst (ns.map V.int))) := Evl.Ex.new hl2
    refine ⟨_, rfl, sz_of (by show 5 ≤ 100000; decide), fun p hp => ?_⟩
    have x3 : Ex (upd (upd H q (.lst xs)) l (.lst (ns.map V.int))) (upd (upd (upd H q (.lst xs)) l (.lst (ns.map V.int))) p (.lst [.ref l, .int 0, .int 0, .int 0, .int s])) := Evl.Ex.new hp
    have npl : l ≠ p := fun z => by rw [← z, upd_same] at hp; cases hp
    refine k p _ [.list (ns.map .int), .int 0, .int 0, .int 0, .int s] _ ((x1.trans x2).trans x3) (Evl.fresh_back x1 (Evl.fresh_back x2 hp)) upd_same ?_ ⟨ns, 0, 0, 0, s, rfl, by decide, by omega⟩
    refine .cons (.lst (cut_of npl (by rw [upd_ne npl]; exact upd_same)) ?_) (.cons (.int _) (.cons (.int _) (.cons (.int _) (.cons (.int _) .nil))))
    exact da_map _ _ (fun i => .int i) ns
end Wd

set_option Elab.async false
set_option linter.all false
set_option maxRecDepth 100000
set_option maxHeartbeats 4000000
set_option autoImplicit false
/-! Steps of a law's own meaning. -/
namespace Wd
open PySem PyProof.Rows L2 Mt
theorem two_le {a b : D} : [a, b].length ≤ 100000 := by show 2 ≤ 100000; omega
theorem three_le {a b c : D} : [a, b, c].length ≤ 100000 := by show 3 ≤ 100000; omega
section
variable {i : Nat} {p : Addr} {pds : List D} {ρ : Env} {A : FA} {Φ : D → Env → Prop}
theorem w_draw {m : Int} (h : ρ[i]? = some (some (.pin p pds))) (po : PoolOk pds) (hA : A ρ = some [.int m]) (hm : 0 < m) (hm2 : m < 1073741824)
    (k : ∀ (r : Int) (pds' : List D), 0 ≤ r → r < m → PoolOk pds' → Φ (.int r) (ρ.set i (some (.pin p pds')))) : wPool i R__law_draw A ρ Φ :=
  ⟨p, pds, _, h, po, hA, m, rfl, hm, hm2, fun r h0 h1 pds' po' => k r pds' h0 h1 po'⟩
theorem w_word {n m : Int} (h : ρ[i]? = some (some (.pin p pds))) (po : PoolOk pds) (hA : A ρ = some [.int n, .int m]) (hn : 0 < n) (hn2 : n ≤ 1000) (hm : 0 ≤ m) (hm2 : m ≤ 900)
    (k : ∀ (w : Wrd) (pds' : List D), inR n w → (w.length : Int) ≤ m → PoolOk pds' → Φ (kT w) (ρ.set i (some (.pin p pds')))) : wPool i R__law_word A ρ Φ :=
  ⟨p, pds, _, h, po, hA, n, m, rfl, hn, hn2, hm, hm2, fun w h0 h1 pds' po' => k w pds' h0 h1 po'⟩
theorem w_cell {n m : Int} (h : ρ[i]? = some (some (.pin p pds))) (po : PoolOk pds) (hA : A ρ = some [.int n, .int m]) (hn : 3 ≤ n) (hn2 : n ≤ 1000) (hm : 0 ≤ m) (hm2 : m ≤ 900)
    (k : ∀ (c : Wrd) (pds' : List D), NF n c → (c.length : Int) ≤ m → PoolOk pds' → Φ (kT c) (ρ.set i (some (.pin p pds')))) : wPool i R__law_cell A ρ Φ :=
  ⟨p, pds, _, h, po, hA, n, m, rfl, hn, hn2, hm, hm2, fun w h0 h1 pds' po' => k w pds' h0 h1 po'⟩
theorem w_pick {xs : List D} (h : ρ[i]? = some (some (.pin p pds))) (po : PoolOk pds) (hA : A ρ = some [.list xs] ∨ A ρ = some [.tuple xs]) (hx : 0 < xs.length) (hx2 : xs.length ≤ 100000)
    (k : ∀ (x : D) (pds' : List D), x ∈ xs → PoolOk pds' → Φ x (ρ.set i (some (.pin p pds')))) : wPool i R__law_pick A ρ Φ := by
  rcases hA with hA | hA
  · exact ⟨p, pds, _, h, po, hA, xs, .inl rfl, hx, hx2, fun x h0 pds' po' => k x pds' h0 po'⟩
  · exact ⟨p, pds, _, h, po, hA, xs, .inr rfl, hx, hx2, fun x h0 pds' po' => k x pds' h0 po'⟩
theorem w_sides (h : ρ[i]? = some (some (.pin p pds))) (po : PoolOk pds) (hA : A ρ = some [])
    (k : ∀ (n : Int) (pds' : List D), n = 5 ∨ n = 6 ∨ n = 7 ∨ n = 9 → PoolOk pds' → Φ (.int n) (ρ.set i (some (.pin p pds')))) : wPool i R__law_sides A ρ Φ :=
  ⟨p, pds, _, h, po, hA, rfl, fun n h0 pds' po' => k n pds' h0 po'⟩
end
section
variable {i j l : Nat} {ρ : Env} {P : OutW → Prop} {A B : FW} {E : EW} {L : AW} {F : F1} {FL : FA} {f : D → Env → Option Env}
theorem w_set (h : E ρ fun d ρ' => P (.nx (ρ'.set i (some (.dat d))))) : wSet i E ρ P := h
theorem w_bin {g : D → D → Option D} {A B : EW} {Φ : D → Env → Prop} (h : A ρ fun a ρ1 => B ρ1 fun b ρ2 => ∃ z, g a b = some z ∧ Φ z ρ2) : wBin g A B ρ Φ := h
theorem w_lift {Φ : D → Env → Prop} {d : D} (e : F ρ = some d) (h : Φ d ρ) : wL F ρ Φ := ⟨d, e, h⟩
theorem w_liftA {Φ : List D → Env → Prop} {d : List D} (e : FL ρ = some d) (h : Φ d ρ) : wLA FL ρ Φ := ⟨d, e, h⟩
theorem w_cons {A : EW} {L : AW} {Φ : List D → Env → Prop} (h : A ρ fun a ρ1 => L ρ1 fun as ρ2 => Φ (a :: as) ρ2) : wCons A L ρ Φ := h
theorem w_app {g : List D → Option D} {Φ : D → Env → Prop} (h : L ρ fun as ρ1 => ∃ z, g as = some z ∧ Φ z ρ1) : wApp g L ρ Φ := h
theorem w_tup {Φ : D → Env → Prop} (h : L ρ fun as ρ1 => as.length ≤ 100000 ∧ Φ (.tuple as) ρ1) : wTup L ρ Φ := h
theorem w_par (h : L ρ fun ds ρ' => ∃ a b, ds = [a, b] ∧ P (.nx ((ρ'.set i (some (.dat a))).set j (some (.dat b))))) : wPar i j L ρ P := h
theorem w_ret (h : E ρ fun d ρ' => P (.rt d ρ')) : wRet E ρ P := h
theorem w_seq (h : A ρ fun o => match o with
  | .nx ρ' => B ρ' P
  | o => P o) : wSeq A B ρ P := h
/-- a test that does not hold: nothing is done -/
theorem w_pass {T : FT} {C : FW} (hT : T ρ = some false) (h : P (.nx ρ)) : wIf T C wNx ρ P := by
  unfold wIf
  rw [hT]
  exact h
theorem w_pass_seq {T : FT} {C B : FW} (hT : T ρ = some false) (h : B ρ P) : wSeq (wIf T C wNx) B ρ P := w_seq (w_pass hT h)
/-- a loop over a list, with what stays so -/
theorem wloop_inv {γ : Type} {g : D → Env → Option Env} {B : FW} {i : γ → D} {l : List γ} {Inv : List γ → Env → Prop} {P : OutW → Prop}
    (step : ∀ pre c post ρ, l = pre ++ c :: post → Inv pre ρ → ∃ ρ1, g (i c) ρ = some ρ1 ∧ ∀ Q : OutW → Prop, (∀ ρ2, Inv (pre ++ [c]) ρ2 → Q (.nx ρ2) ∧ Q (.ct ρ2)) → B ρ1 Q)
    {ρ : Env} (h0 : Inv [] ρ) (hP : ∀ ρ', Inv l ρ' → P (.nx ρ')) : wloop g B (l.map i) ρ P := by
  have : ∀ (post pre : List γ) (ρ : Env), l = pre ++ post → Inv pre ρ → wloop g B (post.map i) ρ P := by
    intro post
    induction post with
    | nil =>
      intro pre ρ e h
      rw [List.append_nil] at e
      subst e
      exact hP ρ h
    | cons c post ih =>
      intro pre ρ e h
      obtain ⟨ρ1, e1, hb⟩ := step pre c post ρ e h
      exact ⟨ρ1, e1, hb _ fun ρ2 hi => ⟨ih (pre ++ [c]) ρ2 (by rw [e]; simp) hi, ih (pre ++ [c]) ρ2 (by rw [e]; simp) hi⟩⟩
  exact this l [] ρ rfl h0
end
end Wd

set_option Elab.async false
set_option linter.all false
set_option maxRecDepth 100000
set_option maxHeartbeats 4000000
set_option autoImplicit false
/-! More rules: tuples in order, list.index, comprehensions with two clauses. -/
namespace Wd
open PySem PyProof.Rows L2

/-! ### t < u, tuples of ints -/
theorem lexLt_eq : ∀ ns ms : List Int, HT.lexLt ns ms = decide (ns < ms)
  | [], [] => by simp [HT.lexLt]
  | [], _ :: _ => by simp [HT.lexLt]
  | _ :: _, [] => by simp [HT.lexLt]
  | x :: xs, y :: ys => by
    rw [HT.lexLt_cons, lexLt_eq xs ys]
    by_cases h : x = y
    · subst h
      rw [if_pos rfl]
      simp [List.cons_lt_cons_iff]
    · rw [if_neg h]
      simp [List.cons_lt_cons_iff, h]
def dLtT : D → D → Option D
  | .tuple a, .tuple b => match intsOf a with
    | some ns => match intsOf b with
      | some ms => some (.bool (decide (ns < ms)))
      | none => none
    | none => none
  | _, _ => none
theorem rd_ltT {K : PySem.W.Frag} : RD2 (rLtT K) dLtT := fun S H x y d e z al hx hy hz Q k => by
  unfold dLtT at hz
  split at hz
  · split at hz
    · rename_i ns e1
      split at hz
      · rename_i ms e2
        cases hz
        cases hx with
        | tup ha hs =>
        cases hy with
        | tup hb ht =>
        obtain rfl := ints_da hs e1
        obtain rfl := ints_da ht e2
        exact ⟨_, _, ns, ms, rfl, rfl, SqT.of (cut_some ha).2, SqT.of (cut_some hb).2, k _ H (Evl.Ex.refl H) (by rw [lexLt_eq]; exact .bl _)⟩
      · cases hz
    · cases hz
  · cases hz
theorem op_ltTK {X : Cx} {K : PySem.W.Frag} {k : Nat} (hK : X.K = K) (hr : Room k X.A) : OpR X (compareOp .Lt) (rLtT K) := by
  subst hK
  exact op_ltT (by have := hr.un; omega)

/-! ### l.index(x) -/
def dIndex : D → D → Option D
  | .list ds, d => if (SeqAt.shaped (.list ds) && SeqAt.shaped d) = true then match ds.findIdx? (fun z => PyData.eqv z d) with
    | some j => some (.int (j : Nat))
    | none => none else none
  | _, _ => none
theorem findIdx_first {α : Type} {p : α → Bool} : ∀ {l : List α} {j : Nat}, l.findIdx? p = some j → ∃ z, l[j]? = some z ∧ p z = true ∧ ∀ m z', m < j → l[m]? = some z' → p z' = false
  | [], j, h => by simp at h
  | a :: l, j, h => by
    rw [List.findIdx?_cons] at h
    by_cases q : p a = true
    · rw [if_pos q] at h
      obtain rfl := Option.some.inj h
      exact ⟨a, rfl, q, fun m z' hm => absurd hm (Nat.not_lt_zero _)⟩
    · rw [if_neg q] at h
      cases e : l.findIdx? p with
      | none => rw [e] at h; cases h
      | some i =>
        rw [e] at h
        obtain rfl := Option.some.inj (show some (i + 1) = some j from h)
        obtain ⟨z, h1, h2, h3⟩ := findIdx_first e
        refine ⟨z, h1, h2, fun m z' hm hz => ?_⟩
        cases m with
        | zero =>
          obtain rfl := Option.some.inj hz
          exact Bool.eq_false_iff.mpr q
        | succ m => exact h3 m z' (by omega) hz
section
variable {X : Cx} {a e : Expr} {ta te : TE} {F G : F1} {p2 pos : Pos}
theorem ce_index (hu : X.A.units + 65 < cLine) (ha : Ce X a ta F) (he : Ce X e te G)
    (hbase : attributeBase a "index" X.env (eval a X.env) = eval a X.env := by rfl)
    (hfew : ((backTo pos (starEach [e] X.env)).all (fun x => !x.1) && (backToKw pos (keywordEach [] X.env)).all (fun x => x.1.isSome)
      && decide ([e].length + ([] : List Keyword).length + (if ([] : List Keyword).isEmpty then 0 else 1) < 30)) = true := by rfl)
    (hline : (p2.endLine == pos.line) = true := by rfl) (s1 : starEach [e] X.env = (false, eval e X.env) :: starEach [] X.env := by rfl) (hplain : (backTo pos (starEach [] X.env)).any (·.1) = false := by rfl) :
    Ce X (.Call (.Attribute a "index" p2) [e] [] pos) (tBM X.K "list" (rIndexD X.K) ta (tCons te tNil)) (fBin dIndex F G) :=
  ⟨pe_bm PySem.F.plainAttrs_list PySem.F.slot_list_index PySem.F.type_list_index (mt_indexD hu) ha.pe (pa_cons he.pe pa_nil s1) hbase hfew hline s1 hplain, fun N S H σ ρ z R h Q k => by
    unfold fBin at h
    split at h
    · rename_i d1 e1
      split at h
      · rename_i d2 e2
        unfold dIndex at h
        split at h
        · rename_i ds
          split at h
          · rename_i hs
            split at h
            · rename_i j ej
              cases h
              rw [Bool.and_eq_true] at hs
              refine ha.so N S H σ ρ _ R e1 _ fun v1 H1 x1 o1 => ?_
              cases o1 with
              | lst hl hd =>
              refine ⟨.inl ⟨rfl, _, SqL.of (cut_some hl).2⟩, ?_⟩
              refine he.so N S H1 σ ρ _ (R.mono x1) e2 _ fun v2 H2 x2 o2 => ?_
              obtain ⟨z, h1, h2, h3⟩ := findIdx_first ej
              have o1' : Da (cut H2 S) (.ref _) (.list ds) := Da.mono (cut_mono x2) _ _ (.lst hl hd)
              exact ⟨_, _, d2, ds, j, z, rfl, rfl, Da.dp X.K _ _ (Da.mono cut_ex _ _ o1'), Da.dp X.K _ _ (Da.mono cut_ex _ _ o2), hs.1, hs.2, h1, h2, h3, k _ H2 (x1.trans x2) (.int _)⟩
            · cases h
          · cases h
        · cases h
      · cases h
    · cases h⟩
theorem ce_indexK {K : PySem.W.Frag} (hK : X.K = K) (hu : X.A.units + 65 < cLine) (ha : Ce X a ta F) (he : Ce X e te G)
    (hbase : attributeBase a "index" X.env (eval a X.env) = eval a X.env := by rfl)
    (hfew : ((backTo pos (starEach [e] X.env)).all (fun x => !x.1) && (backToKw pos (keywordEach [] X.env)).all (fun x => x.1.isSome)
      && decide ([e].length + ([] : List Keyword).length + (if ([] : List Keyword).isEmpty then 0 else 1) < 30)) = true := by rfl)
    (hline : (p2.endLine == pos.line) = true := by rfl) (s1 : starEach [e] X.env = (false, eval e X.env) :: starEach [] X.env := by rfl) (hplain : (backTo pos (starEach [] X.env)).any (·.1) = false := by rfl) :
    Ce X (.Call (.Attribute a "index" p2) [e] [] pos) (tBM K "list" (rIndexD K) ta (tCons te tNil)) (fBin dIndex F G) := by
  subst hK
  exact ce_index hu ha he hbase hfew hline s1 hplain
end

/-! ### comprehensions with two clauses -/
def fcatO {α β : Type} (f : α → Option (List β)) : List α → Option (List β)
  | [] => some []
  | a :: l => match f a with
    | some bs => match fcatO f l with
      | some cs => some (bs ++ cs)
      | none => none
    | none => none
def lc2Turn (vs : List Nat) (f : D → Env → Option Env) (L1 : FA) (vs1 : List Nat) (f1 : D → Env → Option Env) (T : FT) (E : F1) (ρ : Env) (d : D) : Option (List D) := match f d (wipeE ρ vs) with
  | some ρ1 => match L1 ρ1 with
    | some ds1 => fmapO (lcTurn vs1 f1 T E ρ1) ds1
    | none => none
  | none => none
def fLc2 (L : FA) (vs : List Nat) (f : D → Env → Option Env) (L1 : FA) (vs1 : List Nat) (f1 : D → Env → Option Env) (T : FT) (E : F1) : FA := fun ρ => match L ρ with
  | some ds => match fcatO (lc2Turn vs f L1 vs1 f1 T E ρ) ds with
    | some ys => if ys.length ≤ 100000 then some ys else none
    | none => none
  | none => none
section
variable {N S : Addr → Prop} {H H' : Hp} {σ : L2.St} {ρ : Env} {v : V} {c : Cell} {p : Addr}
theorem CellOk.newN (hp : H p = none) (e : Ex H H') (h : CellOk N S H v c) : CellOk (fun a => N a ∨ a = p) (fun a => S a ∨ a = p) H' v c := by
  have m : Ex (cut H S) (cut H' fun a => S a ∨ a = p) := cut_new hp e
  have ne : ∀ {q : Addr} {o : HO}, H q = some o → q ≠ p := fun {q o} hq z => by rw [z, hp] at hq; cases hq
  cases c with
  | dat d => exact Da.mono m d v h
  | own ds =>
    obtain ⟨q, vs, e1, h1, h2, h3, h4⟩ := h
    exact ⟨q, vs, e1, .inl h1, fun z => z.elim h2 (ne h3), e _ _ h3, DaAll.mono m _ _ h4⟩
  | dic kvs =>
    obtain ⟨q, vs, e1, h1, h2, h3, hk, h4⟩ := h
    exact ⟨q, vs, e1, .inl h1, fun z => z.elim h2 (ne h3), e _ _ h3, hk, DaAll.mono m _ _ h4⟩
  | pin q ds =>
    obtain ⟨vs, e1, h1, h2, h3, h4⟩ := h
    exact ⟨vs, e1, .inl h1, fun z => z.elim h2 (ne h3), e _ _ h3, DaAll.mono m _ _ h4⟩
/-- something is made that no slot knows of -/
theorem RelE.newN {xs : List V} (hp : H p = none) (hx : H' p = some (.lst xs)) (e : Ex H H') (h : RelE N S H σ ρ) : RelE (fun a => N a ∨ a = p) (fun a => S a ∨ a = p) H' σ ρ :=
  ⟨h.len, fun i c q => let ⟨v, a, b⟩ := h.cell i c q; ⟨v, a, b.newN hp e⟩, h.al.add e hx, fun a q => q.elim (fun z => .inl (h.sub a z)) fun z => .inr z, h.sep⟩
theorem CellOk.updN {xs : List V} (np : N p) (sp : S p) (h : CellOk N S H v c) : CellOk N S (upd H p (.lst xs)) v c := by
  have m : cut (upd H p (.lst xs)) S = cut H S := cut_upd sp
  cases c with
  | dat d => show Da _ _ _; rw [m]; exact h
  | own ds =>
    obtain ⟨q, vs, e1, h1, h2, h3, h4⟩ := h
    exact ⟨q, vs, e1, h1, h2, (upd_ne fun z => h2 (by rw [z]; exact np)).trans h3, by rw [m]; exact h4⟩
  | dic kvs =>
    obtain ⟨q, vs, e1, h1, h2, h3, hk, h4⟩ := h
    exact ⟨q, vs, e1, h1, h2, (upd_ne fun z => h2 (by rw [z]; exact np)).trans h3, hk, by rw [m]; exact h4⟩
  | pin q ds =>
    obtain ⟨vs, e1, h1, h2, h3, h4⟩ := h
    exact ⟨vs, e1, h1, h2, (upd_ne fun z => h2 (by rw [z]; exact np)).trans h3, by rw [m]; exact h4⟩
/-- what no slot knows of is changed -/
theorem RelE.updN {xs : List V} (np : N p) (h : RelE N S H σ ρ) : RelE N S (upd H p (.lst xs)) σ ρ :=
  ⟨h.len, fun i c q => let ⟨v, a, b⟩ := h.cell i c q; ⟨v, a, b.updN np (h.sub p np)⟩, fun a sa => by
    by_cases z : a = p
    · subst z; exact .inl ⟨xs, upd_same⟩
    · rw [upd_ne z]; exact h.al a sa, h.sub, h.sep⟩
end
theorem so_lc2 {wi wi1 : TI} {g g1 : TG} {tt : TT} {te : TE} {vs vs1 : List Nat} {L L1 : FA} {f f1 : D → Env → Option Env} {T : FT} {E : F1} (hi : SI wi L) (hg : SG g f) (hw : GW g vs) (hi1 : SI wi1 L1) (hg1 : SG g1 f1) (hw1 : GW g1 vs1) (ht : ST tt T) (he : SE te E) :
    SL (tLc2 wi g tYes wi1 g1 tt te vs vs1) (fLc2 L vs f L1 vs1 f1 T E) := fun N S H σ ρ ys R hz Q k => by
  unfold fLc2 at hz
  split at hz
  · rename_i ds e1
    split at hz
    · rename_i ys' ey
      split at hz
      · rename_i hlen
        cases hz
        refine hi N S H σ ρ ds R e1 _ fun J H1 xs x1 o1 yl => fun Dl hD => ?_
        have R1 : RelE N S H1 σ ρ := R.mono x1
        have x2 : Ex H1 (upd H1 Dl (.lst [])) := Evl.Ex.new hD
        have hxl := o1.length
        refine ⟨fun i m H' => m = xs.length - i ∧ i ≤ xs.length ∧ Ex H1 H' ∧ ∃ (acc : List V) (accD rst : List D), H' Dl = some (.lst acc) ∧ DaAll (cut H' fun a => S a ∨ a = Dl) acc accD ∧ fcatO (lc2Turn vs f L1 vs1 f1 T E ρ) (ds.drop i) = some rst ∧ accD ++ rst = ys,
          ⟨xs.length, by simp, Nat.zero_le _, x2, [], [], ys, upd_same, .nil, ey, rfl⟩, ?_⟩
        rintro i m H' ⟨rfl, hile, x3, acc, accD, rst, hacc, oacc, hrst, hys⟩
        have xc : Ex (cut H1 S) (cut H' fun a => S a ∨ a = Dl) := cut_new hD x3
        have xH : Ex (cut H1 S) H' := Evl.Ex.trans xc cut_ex
        obtain ⟨ygo, yst⟩ := yl H' xH
        by_cases hlt : i < xs.length
        · obtain ⟨x, hx⟩ : ∃ x, xs[i]? = some x := ⟨xs[i], List.getElem?_eq_getElem hlt⟩
          obtain ⟨g2, g3⟩ := ygo i x hx
          have hdl : i < ds.length := by rw [← hxl]; exact hlt
          have hdd : ds.drop i = ds[i] :: ds.drop (i + 1) := List.drop_eq_getElem_cons hdl
          have hdi : ds[i]? = some ds[i] := List.getElem?_eq_getElem hdl
          obtain ⟨x', hx', ox⟩ := o1.get hdi
          rw [hx] at hx'
          obtain rfl := Option.some.inj hx'
          have R3 : RelE (fun a => N a ∨ a = Dl) (fun a => S a ∨ a = Dl) H' σ ρ := R1.newN hD hacc x3
          have ox3 : Da (cut H' fun a => S a ∨ a = Dl) x ds[i] := Da.mono xc _ _ ox
          rw [hdd] at hrst
          unfold fcatO at hrst
          split at hrst
          · rename_i r1 hturn
            split at hrst
            · rename_i r2 er2
              cases hrst
              refine .inr ⟨g2, fun H'' => Ex H1 H'' ∧ ∃ (acc : List V) (accD rst : List D), H'' Dl = some (.lst acc) ∧ DaAll (cut H'' fun a => S a ∨ a = Dl) acc accD ∧ fcatO (lc2Turn vs f L1 vs1 f1 T E ρ) (ds.drop (i + 1)) = some rst ∧ accD ++ rst = ys,
                fun H'' ⟨y1, y2⟩ => ⟨xs.length - (i + 1), by omega, rfl, hlt, y1, y2⟩, fun x'' H'' hy => ?_⟩
              obtain ⟨rfl, rfl⟩ := g3 x'' H'' hy
              unfold lc2Turn at hturn
              split at hturn
              · rename_i ρ1 eg
                refine hw _ σ H'' _ (hg _ _ H'' _ (wipeE ρ vs) ρ1 _ _ (R3.wipe vs) ox3 eg _ fun σ1 R4 => ?_)
                split at hturn
                · rename_i ds1 e4
                  refine iteT (B := False) ?_
                  refine hi1 _ _ H'' σ1 ρ1 ds1 R4 e4 _ fun J1 H4 ws x4 o4 yl1 => ?_
                  have hwl := o4.length
                  refine ⟨fun j k' H5 => k' = ws.length - j ∧ j ≤ ws.length ∧ Ex H1 H5 ∧ Ex (cut H4 fun a => S a ∨ a = Dl) (cut H5 fun a => S a ∨ a = Dl) ∧ RelE (fun a => N a ∨ a = Dl) (fun a => S a ∨ a = Dl) H5 σ1 ρ1 ∧ ∃ (acc : List V) (accD rst1 : List D), H5 Dl = some (.lst acc) ∧ DaAll (cut H5 fun a => S a ∨ a = Dl) acc accD ∧ fmapO (lcTurn vs1 f1 T E ρ1) (ds1.drop j) = some rst1 ∧ accD ++ (rst1 ++ r2) = ys,
                    ⟨ws.length, by simp, Nat.zero_le _, x3.trans x4, Evl.Ex.refl _, R4.mono x4, acc, accD, r1, x4 _ _ hacc, DaAll.mono (cut_mono x4) _ _ oacc, hturn, hys⟩, ?_⟩
                  rintro j k' H5 ⟨rfl, hjle, x5, xc5, R5, acc5, accD5, rst5, hacc5, oacc5, hrst5, hys5⟩
                  obtain ⟨zgo, zst⟩ := yl1 H5 (Evl.Ex.trans xc5 cut_ex)
                  by_cases hjlt : j < ws.length
                  · obtain ⟨y, hy5⟩ : ∃ y, ws[j]? = some y := ⟨ws[j], List.getElem?_eq_getElem hjlt⟩
                    obtain ⟨g4, g5⟩ := zgo j y hy5
                    have hdl1 : j < ds1.length := by rw [← hwl]; exact hjlt
                    have hdd1 : ds1.drop j = ds1[j] :: ds1.drop (j + 1) := List.drop_eq_getElem_cons hdl1
                    have hdi1 : ds1[j]? = some ds1[j] := List.getElem?_eq_getElem hdl1
                    obtain ⟨y', hy', oy⟩ := o4.get hdi1
                    rw [hy5] at hy'
                    obtain rfl := Option.some.inj hy'
                    have oy5 : Da (cut H5 fun a => S a ∨ a = Dl) y ds1[j] := Da.mono xc5 _ _ oy
                    rw [hdd1] at hrst5
                    unfold fmapO at hrst5
                    refine .inr ⟨g4, fun H6 => Ex H1 H6 ∧ Ex (cut H4 fun a => S a ∨ a = Dl) (cut H6 fun a => S a ∨ a = Dl) ∧ RelE (fun a => N a ∨ a = Dl) (fun a => S a ∨ a = Dl) H6 σ1 ρ1 ∧ ∃ (acc : List V) (accD rst1 : List D), H6 Dl = some (.lst acc) ∧ DaAll (cut H6 fun a => S a ∨ a = Dl) acc accD ∧ fmapO (lcTurn vs1 f1 T E ρ1) (ds1.drop (j + 1)) = some rst1 ∧ accD ++ (rst1 ++ r2) = ys,
                      fun H6 ⟨y1, y2, y3, y4⟩ => ⟨ws.length - (j + 1), by omega, rfl, hjlt, y1, y2, y3, y4⟩, fun y'' H6 hyy => ?_⟩
                    obtain ⟨rfl, rfl⟩ := g5 y'' H6 hyy
                    cases hturn1 : lcTurn vs1 f1 T E ρ1 ds1[j] with
                    | none => rw [hturn1] at hrst5; cases hrst5
                    | some oy' =>
                      rw [hturn1] at hrst5
                      unfold lcTurn at hturn1
                      split at hturn1
                      · rename_i ρ2 eg1
                        refine hw1 _ σ1 H6 _ (hg1 _ _ H6 _ (wipeE ρ1 vs1) ρ2 _ _ (R5.wipe vs1) oy5 eg1 _ fun σ2 R6 => ?_)
                        split at hturn1
                        · rename_i et
                          refine ht _ _ H6 σ2 ρ2 _ R6 et _ fun H7 x7 => ?_
                          split at hturn1
                          · rename_i z ee
                            cases hturn1
                            refine iteT (he _ _ H7 σ2 ρ2 z (R6.mono x7) ee _ fun v H8 x8 o8 => ?_)
                            have hD8 : H8 Dl = some (.lst acc5) := x8 _ _ (x7 _ _ hacc5)
                            simp only at hrst5
                            split at hrst5
                            · rename_i bs eb
                              cases hrst5
                              have hal : acc5.length < 100000 := by
                                have h1 := oacc5.length
                                have h2 := congrArg List.length hys5
                                simp only [List.length_append, List.length_cons] at h2
                                omega
                              refine ⟨acc5, hD8, Evl.sz_lt (by omega), Evl.Ex.mut ((x5.trans x7).trans x8) hD, ?_, ?_, acc5 ++ [v], accD5 ++ [z], bs, upd_same, ?_, eb, ?_⟩
                              · rw [cut_upd (.inr rfl)]
                                exact xc5.trans (cut_mono (x7.trans x8))
                              · exact (R5.mono (x7.trans x8)).updN (.inr rfl)
                              · rw [cut_upd (.inr rfl)]
                                exact (DaAll.mono (cut_mono (x7.trans x8)) _ _ oacc5).snoc o8
                              · rw [List.append_assoc]; exact hys5
                            · cases hrst5
                          · cases hturn1
                        · rename_i et
                          cases hturn1
                          refine ht _ _ H6 σ2 ρ2 _ R6 et _ fun H7 x7 => ?_
                          exact iteF ⟨x5.trans x7, xc5.trans (cut_mono x7), R5.mono x7, acc5, accD5, rst5, x7 _ _ hacc5, DaAll.mono (cut_mono x7) _ _ oacc5, hrst5, hys5⟩
                        · cases hturn1
                      · cases hturn1
                  · have ej : j = ws.length := by omega
                    refine .inl ⟨zst j (by omega), x5, acc5, accD5, r2, hacc5, oacc5, er2, ?_⟩
                    rw [List.drop_eq_nil_of_le (by omega)] at hrst5
                    cases hrst5
                    exact hys5
                · cases hturn
              · cases hturn
            · cases hrst
          · cases hrst
        · have ei : i = xs.length := by omega
          refine .inl ⟨yst i (by omega), ?_⟩
          rw [List.drop_eq_nil_of_le (by omega)] at hrst
          cases hrst
          rw [List.append_nil] at hys
          subst hys
          exact k Dl acc H' (x1.trans x3) (Evl.fresh_back x1 hD) hacc oacc
      · cases hz
    · cases hz
  · cases hz
section
variable {X : Cx} {elt tg iter tg1 iter1 : Expr} {ifs1 : List Expr} {scope : Scope} {own : List (Str × Nat)} {vs1 : List Nat} {pos spos py : Pos} {wi wi1 : TI} {g g1 : TG} {tt : TT} {te : TE} {L L1 : FA} {f f1 : D → Env → Option Env} {T : FT} {E : F1}
theorem cl_lc2 (hc : X.calm = true) (hN : X.N.Nodup) (hi : Ci X tg iter wi L) (ok : BlkOk X.N X.env.scope scope own)
    (hg : ∀ (s : Shared) (H : Hp) (C : Addr) (cl : List (Str × Addr)) (fp : List Addr), Cg (X.blk s H scope (compEnvC scope cl C X.env) fp) tg g f)
    (hi1 : ∀ (s : Shared) (H : Hp) (C : Addr) (cl : List (Str × Addr)) (fp : List Addr), Ci (X.blk s H scope (compEnvC scope cl C X.env) fp) tg1 iter1 wi1 L1)
    (hg1 : ∀ (s : Shared) (H : Hp) (C : Addr) (cl : List (Str × Addr)) (fp : List Addr), Cg (X.blk s H scope (compEnvC scope cl C X.env) fp) tg1 g1 f1)
    (hw : GW g (own.map (·.2))) (hw1 : GW g1 vs1)
    (ht : ∀ (s : Shared) (H : Hp) (C : Addr) (cl : List (Str × Addr)) (fp : List Addr), Cts (X.blk s H scope (compEnvC scope cl C X.env) fp) ifs1 tt T)
    (he : ∀ (s : Shared) (H : Hp) (C : Addr) (cl : List (Str × Addr)) (fp : List Addr), Ce (X.blk s H scope (compEnvC scope cl C X.env) fp) elt te E)
    (hv : ∀ i ∈ vs1, i ∈ own.map (·.2) := by decide) (hs : ∀ x, foldedSetIterable iter X.env x = pure x := by intro _; rfl) (hs1 : ∀ env x, foldedSetIterable iter1 env x = pure x := by intro _ _; rfl) :
    Cl X (.ListComp elt [⟨tg, iter, [], 0⟩, ⟨tg1, iter1, ifs1, 0⟩] scope pos) (tLc2 wi g tYes wi1 g1 tt te (own.map (·.2)) vs1) (fLc2 L (own.map (·.2)) f L1 vs1 f1 T E) :=
  ⟨pe_lc2 hc hN hi.pi ok hv (fun s H C cl fp => (hg s H C cl fp).pg) (fun s H C cl fp => pts_nil) (fun s H C cl fp => (hi1 s H C cl fp).pi) (fun s H C cl fp => (hg1 s H C cl fp).pg) (fun s H C cl fp => (ht s H C cl fp).pt) (fun s H C cl fp => (he s H C cl fp).pe) hs hs1,
    so_lc2 hi.so (hg {} (fun _ => none) 0 [] []).so hw (hi1 {} (fun _ => none) 0 [] []).so (hg1 {} (fun _ => none) 0 [] []).so hw1 (ht {} (fun _ => none) 0 [] []).so (he {} (fun _ => none) 0 [] []).so⟩
theorem cs_setLc2 {i : Nat} {y : Str} (hc : X.calm = true) (hN : X.N.Nodup) (hi : Ci X tg iter wi L) (ok : BlkOk X.N X.env.scope scope own)
    (hg : ∀ (s : Shared) (H : Hp) (C : Addr) (cl : List (Str × Addr)) (fp : List Addr), Cg (X.blk s H scope (compEnvC scope cl C X.env) fp) tg g f)
    (hi1 : ∀ (s : Shared) (H : Hp) (C : Addr) (cl : List (Str × Addr)) (fp : List Addr), Ci (X.blk s H scope (compEnvC scope cl C X.env) fp) tg1 iter1 wi1 L1)
    (hg1 : ∀ (s : Shared) (H : Hp) (C : Addr) (cl : List (Str × Addr)) (fp : List Addr), Cg (X.blk s H scope (compEnvC scope cl C X.env) fp) tg1 g1 f1)
    (hw : GW g (own.map (·.2))) (hw1 : GW g1 vs1)
    (ht : ∀ (s : Shared) (H : Hp) (C : Addr) (cl : List (Str × Addr)) (fp : List Addr), Cts (X.blk s H scope (compEnvC scope cl C X.env) fp) ifs1 tt T)
    (he : ∀ (s : Shared) (H : Hp) (C : Addr) (cl : List (Str × Addr)) (fp : List Addr), Ce (X.blk s H scope (compEnvC scope cl C X.env) fp) elt te E)
    (hv : ∀ i ∈ vs1, i ∈ own.map (·.2) := by decide) (hy : X.N[i]? = some y := by rfl) (hyl : X.env.scope.names.lookup y = some .local := by rfl)
    (hsw : swapsWith (.ListComp elt [⟨tg, iter, [], 0⟩, ⟨tg1, iter1, ifs1, 0⟩] scope pos) (some (.Name y py)) spos.line X.env = pure true := by exact sw_true rfl rfl rfl (by decide +kernel)) (hs : ∀ x, foldedSetIterable iter X.env x = pure x := by intro _; rfl) (hs1 : ∀ env x, foldedSetIterable iter1 env x = pure x := by intro _ _; rfl) :
    Cs X (.Assign [.Name y py] (.ListComp elt [⟨tg, iter, [], 0⟩, ⟨tg1, iter1, ifs1, 0⟩] scope pos) spos) (tAsg (tLc2 wi g tYes wi1 g1 tt te (own.map (·.2)) vs1) (gName i)) (gSet i (fOfL (fLc2 L (own.map (·.2)) f L1 vs1 f1 T E))) :=
  ⟨ps_setLc2 hc hN hy hyl hsw hi.pi ok hv (fun s H C cl fp => (hg s H C cl fp).pg) (fun s H C cl fp => pts_nil) (fun s H C cl fp => (hi1 s H C cl fp).pi) (fun s H C cl fp => (hg1 s H C cl fp).pg) (fun s H C cl fp => (ht s H C cl fp).pt) (fun s H C cl fp => (he s H C cl fp).pe) hs hs1,
    so_set (so_ofL (so_lc2 hi.so (hg {} (fun _ => none) 0 [] []).so hw (hi1 {} (fun _ => none) 0 [] []).so (hg1 {} (fun _ => none) 0 [] []).so hw1 (ht {} (fun _ => none) 0 [] []).so (he {} (fun _ => none) 0 [] []).so))⟩
end
/-! [a, b] with draws -/
def wLst (L : AW) : EW := fun ρ Φ => L ρ fun as ρ1 => as.length ≤ 100000 ∧ Φ (.list as) ρ1
theorem ew_lst {X : Cx} {es : List Expr} {t : TA} {L : AW} {pos : Pos} (h : Aw X es t L) : Ew X (.List es pos) (tLst t) (wLst L) := ⟨pe_lst h.pa, fun N H0 S H σ ρ Φ R k Q q => by
  refine h.so N H0 S H σ ρ _ R k _ fun vs H1 ds ρ1 R1 x1 o1 ⟨hl, k1⟩ => ⟨sz_of (by rw [o1.length]; exact hl), fun p hp => ?_⟩
  have x2 : Ex H1 (upd H1 p (.lst vs)) := Evl.Ex.new hp
  exact q _ _ _ ρ1 (R1.mono x2) (x1.ex x2) (.lst (cut_of (R1.e.al.there hp) upd_same) (DaAll.mono (cut_mono x2) _ _ o1)) k1⟩
theorem monoE_lst {L : AW} (m : MonoA L) : MonoE (wLst L) := fun ρ P P' h k => m ρ _ _ (fun a ρ1 ⟨e, q⟩ => ⟨e, h _ _ q⟩) k
/-! reading -/
theorem ev_fLc2 {L L1 : FA} {vs vs1 : List Nat} {f f1 : D → Env → Option Env} {T : FT} {E : F1} {ρ : Env} : fLc2 L vs f L1 vs1 f1 T E ρ = (match L ρ with
  | some ds => match fcatO (lc2Turn vs f L1 vs1 f1 T E ρ) ds with
    | some ys => if ys.length ≤ 100000 then some ys else none
    | none => none
  | none => none) := (Eq.refl (fLc2 L vs f L1 vs1 f1 T E ρ)).trans (Eq.refl _)
theorem ev_lc2Turn {L1 : FA} {vs vs1 : List Nat} {f f1 : D → Env → Option Env} {T : FT} {E : F1} {ρ : Env} {d : D} : lc2Turn vs f L1 vs1 f1 T E ρ d = (match f d (wipeE ρ vs) with
  | some ρ1 => match L1 ρ1 with
    | some ds1 => fmapO (lcTurn vs1 f1 T E ρ1) ds1
    | none => none
  | none => none) := (Eq.refl (lc2Turn vs f L1 vs1 f1 T E ρ d)).trans (Eq.refl _)
end Wd

set_option Elab.async false
set_option linter.all false
set_option autoImplicit false
/-! How long a word must be; the walls that it crosses (plain Lean). -/
namespace Mt
section
variable {n a b s : Int} {w u p q x y z c d t : Wrd} {v v' : Vec}
theorem inR_nil : inR n [] := fun a h => (by cases h)
theorem inR_app : inR n (u ++ w) ↔ inR n u ∧ inR n w := ⟨fun h => ⟨fun b hb => h b (List.mem_append_left _ hb), fun b hb => h b (List.mem_append_right _ hb)⟩, fun ⟨h, h'⟩ => inR_append h h'⟩
theorem inR_rev_iff : inR n w.reverse ↔ inR n w := ⟨fun h => by have := inR_rev h; rwa [List.reverse_reverse] at this, inR_rev⟩
theorem inR_one : inR n [a] ↔ (0 ≤ a ∧ a < n) := ⟨fun h => h a List.mem_cons_self, fun h b hb => by rw [List.mem_singleton.mp hb]; exact h⟩
theorem ne_of_adj (h3 : 3 ≤ n) (h : adj n b a = true) : b ≠ a ∧ adj n b a = true := ⟨fun q => (by
  rw [q, adj_self h3] at h
  cases h), h⟩
/-! what act tells -/
theorem act_cons2 : act n (a :: a :: w) = act n w := by
  funext v
  exact refl_refl
theorem act_mid (h : act n u = act n w) : act n (x ++ u ++ y) = act n (x ++ w ++ y) := by
  funext v
  rw [act_append, act_append, act_append, act_append, h]
theorem act_right (h : act n u = act n w) : act n (u ++ c) = act n (w ++ c) := by
  funext v
  rw [act_append, act_append, h]
theorem act_back : act n (u ++ u.reverse) = act n [] := by
  funext v
  rw [act_append, act_rev']
  rfl
theorem act_fore : act n (u.reverse ++ u) = act n [] := by
  funext v
  rw [act_append, act_rev]
  rfl
theorem act_app (h : act n u = act n w) (h' : act n x = act n y) : act n (u ++ x) = act n (w ++ y) := by
  funext v
  rw [act_append, act_append, h, h']
theorem act_swap (h : adj n b a = true) (hne : b ≠ a) : act n (a :: b :: w) = act n (b :: a :: w) := by
  funext v
  exact refl_comm h hne
theorem act_cancel_r (h : act n (u ++ c) = act n (w ++ c)) : act n u = act n w := by
  have e := act_right (c := c.reverse) h
  rw [List.append_assoc, List.append_assoc] at e
  have k := fun (x : Wrd) => act_left (c := x) (act_back (n := n) (u := c))
  rw [k, k, List.append_nil, List.append_nil] at e
  exact e

/-! ### how long -/
def ln (n : Int) (w : Wrd) : Nat := (nf n w).length
theorem ln_congr (h3 : 3 ≤ n) (hu : inR n u) (hw : inR n w) (h : act n u = act n w) : ln n u = ln n w := by
  unfold ln
  rw [(nf_eq h3 hu hw).mpr h]
theorem tms_le : ∀ {w c : Wrd}, (tms n c w).length ≤ c.length + w.length
  | [], c => Nat.le_refl _
  | a :: w, c => by
    have h1 := tms_le (w := w) (c := crs n c a)
    have h2 := crs_len (n := n) (c := c) (s := a)
    rw [tms_cons, List.length_cons]
    split at h2 <;> omega
theorem ln_le : ln n w ≤ w.length := by
  have := tms_le (n := n) (w := w) (c := [])
  rw [List.length_nil, Nat.zero_add] at this
  exact this
theorem ln_red (h3 : 3 ≤ n) (hin : inR n w) (hr : Red n w) : ln n w = w.length := by
  unfold ln
  rw [nf_red h3 hin hr, form_len]
theorem ln_nf (h3 : 3 ≤ n) (hw : inR n w) : ln n (nf n w) = ln n w := ln_congr h3 (nf_nf h3 hw).ir hw (act_nf h3 hw)
theorem NF.ln (h3 : 3 ≤ n) (h : NF n c) : ln n c = c.length := ln_red h3 h.ir h.red
theorem ln_nil : ln n [] = 0 := rfl
theorem ln_par : ln n w % 2 = w.length % 2 := by
  have := tms_par (n := n) (w := w) (c := [])
  rw [List.length_nil, Nat.zero_add] at this
  exact this
theorem ln_app (h3 : 3 ≤ n) (hu : inR n u) (hw : inR n w) : ln n (u ++ w) ≤ ln n u + ln n w := by
  have e : ln n (u ++ w) = ln n (nf n u ++ nf n w) := ln_congr h3 (inR_append hu hw) (inR_append (nf_nf h3 hu).ir (nf_nf h3 hw).ir) (act_app (act_nf h3 hu).symm (act_nf h3 hw).symm)
  rw [e]
  refine Nat.le_trans ln_le ?_
  rw [List.length_append]
  exact Nat.le_refl _
theorem ln_rev_le (h3 : 3 ≤ n) (hw : inR n w) : ln n w.reverse ≤ ln n w := by
  have e : ln n w.reverse = ln n (nf n w).reverse := ln_congr h3 (inR_rev hw) (inR_rev (nf_nf h3 hw).ir) (act_rev_congr (act_nf h3 hw).symm)
  rw [e]
  refine Nat.le_trans ln_le ?_
  rw [List.length_reverse]
  exact Nat.le_refl _
theorem ln_rev (h3 : 3 ≤ n) (hw : inR n w) : ln n w.reverse = ln n w := by
  have h1 := ln_rev_le h3 hw
  have h2 := ln_rev_le h3 (inR_rev hw)
  rw [List.reverse_reverse] at h2
  omega
theorem ln_zero (h3 : 3 ≤ n) (hw : inR n w) : ln n w = 0 ↔ act n w = act n [] := by
  constructor
  · intro h
    rw [← act_nf h3 hw, List.length_eq_zero_iff.mp h]
  · intro h
    rw [ln_congr h3 hw inR_nil h]
    rfl
/-- a word as short as can be is in order -/
theorem red_of_ln (h3 : 3 ≤ n) (hin : inR n w) (h : ln n w = w.length) : Red n w := by
  rintro ⟨x, a, y, z, e, hy⟩
  have e2 : act n w = act n (x ++ (y ++ z)) := by
    rw [e]
    refine act_left ?_
    funext v
    have hp : ∀ b ∈ y, b ≠ a ∧ adj n b a = true := fun b hb => ne_of_adj h3 (hy b hb)
    show refl n a (act n (y ++ a :: z) v) = _
    rw [act_append]
    show refl n a (act n y (refl n a (act n z v))) = _
    rw [act_pull hp, refl_refl, ← act_append]
  have hin2 : inR n (x ++ (y ++ z)) := fun b hb => hin b (by
    rw [e]
    simp only [List.mem_append, List.mem_cons] at hb ⊢
    rcases hb with q | q | q
    · exact .inl q
    · exact .inr (.inr (.inl q))
    · exact .inr (.inr (.inr (.inr q))))
  have h1 := ln_congr h3 hin hin2 e2
  have h2 := ln_le (n := n) (w := x ++ (y ++ z))
  have h4 := congrArg List.length e
  simp only [List.length_append, List.length_cons] at h2 h4
  omega
theorem red_iff (h3 : 3 ≤ n) (hin : inR n w) : Red n w ↔ ln n w = w.length := ⟨ln_red h3 hin, red_of_ln h3 hin⟩
theorem red_congr (h3 : 3 ≤ n) (hu : inR n u) (hw : inR n w) (h : act n u = act n w) (hl : u.length = w.length) : Red n u ↔ Red n w := by
  rw [red_iff h3 hu, red_iff h3 hw, ln_congr h3 hu hw h, hl]

/-! ### the walls that a word crosses, from p on -/
def cr (n : Int) : Wrd → Wrd → List Wrd
  | _, [] => []
  | p, s :: w => nf n (p ++ s :: p.reverse) :: cr n (p ++ [s]) w
def cj (n : Int) (q t : Wrd) : Wrd := nf n (q ++ t ++ q.reverse)
theorem cr_len : ∀ {w p : Wrd}, (cr n p w).length = w.length
  | [], _ => rfl
  | s :: w, p => by
    show (cr n (p ++ [s]) w).length + 1 = _
    rw [cr_len]; rfl
theorem cr_append : ∀ {u w p : Wrd}, cr n p (u ++ w) = cr n p u ++ cr n (p ++ u) w
  | [], w, p => by rw [List.append_nil]; rfl
  | s :: u, w, p => by
    show _ :: cr n (p ++ [s]) (u ++ w) = _
    rw [cr_append, List.append_assoc]
    rfl
theorem inR_wall (hp : inR n p) (hs : 0 ≤ s ∧ s < n) : inR n (p ++ s :: p.reverse) := inR_append hp (inR_cons.mpr ⟨hs, inR_rev hp⟩)
theorem act_wall (h : act n p = act n q) : act n (p ++ s :: p.reverse) = act n (q ++ s :: q.reverse) := by
  have e : ∀ x : Wrd, x ++ s :: x.reverse = x ++ ([s] ++ x.reverse) := fun x => rfl
  rw [e, e]
  exact act_app h (act_left (act_rev_congr h))
theorem cr_congr (h3 : 3 ≤ n) : ∀ {w p q : Wrd}, inR n p → inR n q → inR n w → act n p = act n q → cr n p w = cr n q w
  | [], _, _, _, _, _, _ => rfl
  | s :: w, p, q, hp, hq, hw, h => by
    obtain ⟨hs, hw'⟩ := inR_cons.mp hw
    show nf n _ :: cr n (p ++ [s]) w = nf n _ :: cr n (q ++ [s]) w
    rw [(nf_eq h3 (inR_wall hp hs) (inR_wall hq hs)).mpr (act_wall h), cr_congr h3 (inR_append hp (inR_one.mpr hs)) (inR_append hq (inR_one.mpr hs)) hw' (act_right h)]
theorem cr_nf (h3 : 3 ≤ n) : ∀ {w p : Wrd}, inR n p → inR n w → ∀ t ∈ cr n p w, NF n t
  | [], _, _, _, t, ht => by cases ht
  | s :: w, p, hp, hw, t, ht => by
    obtain ⟨hs, hw'⟩ := inR_cons.mp hw
    have ht' : t ∈ nf n (p ++ s :: p.reverse) :: cr n (p ++ [s]) w := ht
    rcases List.mem_cons.mp ht' with q | q
    · rw [q]; exact nf_nf h3 (inR_wall hp hs)
    · exact cr_nf h3 (inR_append hp (inR_one.mpr hs)) hw' t q
theorem mem_cr : ∀ {w p : Wrd} {t : Wrd}, t ∈ cr n p w ↔ ∃ y b z, w = y ++ b :: z ∧ t = nf n ((p ++ y) ++ b :: (p ++ y).reverse)
  | [], p, t => by
    constructor
    · intro h; cases h
    · rintro ⟨y, b, z, e, _⟩
      cases y <;> cases e
  | s :: w, p, t => by
    show t ∈ nf n (p ++ s :: p.reverse) :: cr n (p ++ [s]) w ↔ _
    rw [List.mem_cons, mem_cr]
    constructor
    · rintro (h | ⟨y, b, z, e, h⟩)
      · exact ⟨[], s, w, rfl, by rw [List.append_nil]; exact h⟩
      · refine ⟨s :: y, b, z, by rw [e]; rfl, ?_⟩
        rw [show p ++ s :: y = p ++ [s] ++ y by simp]
        exact h
    · rintro ⟨y, b, z, e, h⟩
      cases y with
      | nil =>
        obtain ⟨rfl, rfl⟩ := List.cons.inj e
        rw [List.append_nil] at h
        exact .inl h
      | cons c y =>
        obtain ⟨rfl, rfl⟩ := List.cons.inj e
        refine .inr ⟨y, b, z, rfl, ?_⟩
        rw [show p ++ s :: y = p ++ [s] ++ y by simp] at h
        exact h
theorem inR_cj (hq : inR n q) (ht : inR n u) : inR n (q ++ u ++ q.reverse) := inR_append (inR_append hq ht) (inR_rev hq)
theorem act_cj_inj (h : act n (q ++ u ++ q.reverse) = act n (q ++ w ++ q.reverse)) : act n u = act n w := by
  have := act_cancel_r h
  exact act_cancel this
theorem cj_inj (h3 : 3 ≤ n) (hq : inR n q) (hc : NF n c) (hd : NF n d) (h : cj n q c = cj n q d) : c = d :=
  NF.ext h3 hc hd (act_cj_inj ((nf_eq h3 (inR_cj hq hc.ir) (inR_cj hq hd.ir)).mp h))
theorem act_rev_two (h : act n u = act n w) (h' : act n x = act n y) : act n (u ++ x ++ u.reverse) = act n (w ++ y ++ w.reverse) := act_app (act_app h h') (act_rev_congr h)
theorem cj_nf (h3 : 3 ≤ n) (hq : inR n q) (hu : inR n u) : cj n q (nf n u) = nf n (q ++ u ++ q.reverse) :=
  (nf_eq h3 (inR_cj hq (nf_nf h3 hu).ir) (inR_cj hq hu)).mpr (act_rev_two rfl (act_nf h3 hu))
theorem cr_conj (h3 : 3 ≤ n) (hq : inR n q) : ∀ {w p : Wrd}, inR n p → inR n w → cr n (q ++ p) w = (cr n p w).map (cj n q)
  | [], _, _, _ => rfl
  | s :: w, p, hp, hw => by
    obtain ⟨hs, hw'⟩ := inR_cons.mp hw
    show nf n _ :: cr n (q ++ p ++ [s]) w = cj n q (nf n _) :: (cr n (p ++ [s]) w).map (cj n q)
    rw [List.append_assoc q p [s], cr_conj h3 hq (inR_append hp (inR_one.mpr hs)) hw', cj_nf h3 hq (inR_wall hp hs)]
    congr 2
    simp
/-- walking back -/
theorem cr_back (h3 : 3 ≤ n) : ∀ {w p : Wrd}, inR n p → inR n w → cr n (p ++ w) w.reverse = (cr n p w).reverse
  | [], _, _, _ => rfl
  | s :: w, p, hp, hw => by
    obtain ⟨hs, hw'⟩ := inR_cons.mp hw
    have hps := inR_append hp (inR_one.mpr hs)
    have e1 : p ++ s :: w = p ++ [s] ++ w := by simp
    show cr n (p ++ s :: w) (s :: w).reverse = (nf n _ :: cr n (p ++ [s]) w).reverse
    rw [List.reverse_cons, List.reverse_cons, cr_append, e1, cr_back h3 hps hw']
    congr 1
    show [nf n _] = _
    congr 1
    refine (nf_eq h3 (inR_wall (inR_append (inR_append hps hw') (inR_rev hw')) hs) (inR_wall hp hs)).mpr ?_
    have e2 : act n (p ++ [s] ++ w ++ w.reverse) = act n (p ++ [s]) := by
      rw [List.append_assoc]
      have := act_left (c := p ++ [s]) (act_back (n := n) (u := w))
      rwa [List.append_nil] at this
    rw [act_wall e2]
    have e3 : p ++ [s] ++ s :: (p ++ [s]).reverse = p ++ (s :: s :: s :: p.reverse) := by simp
    rw [e3]
    exact act_left act_cons2
theorem cr_head (hp : inR n p) (h3 : 3 ≤ n) (hb : 0 ≤ b ∧ b < n) (ha : 0 ≤ a ∧ a < n) (h : adj n b a = true) (hne : b ≠ a) : nf n ((p ++ [b]) ++ a :: (p ++ [b]).reverse) = nf n (p ++ a :: p.reverse) := by
  refine (nf_eq h3 (inR_wall (inR_append hp (inR_one.mpr hb)) ha) (inR_wall hp ha)).mpr ?_
  have e : p ++ [b] ++ a :: (p ++ [b]).reverse = p ++ (b :: a :: b :: p.reverse) := by simp
  rw [e]
  refine act_left ?_
  rw [act_swap (w := b :: p.reverse) (a := b) (b := a) (by rw [adj_comm]; exact h) (Ne.symm hne)]
  show act n ([a] ++ b :: b :: p.reverse) = _
  exact act_left act_cons2
/-- what can be moved to the front is crossed then -/
theorem cr_pull (h3 : 3 ≤ n) (ha : 0 ≤ a ∧ a < n) : ∀ {y z p : Wrd}, inR n p → inR n y → inR n z → (∀ b ∈ y, b ≠ a ∧ adj n b a = true) → (cr n p (y ++ a :: z)).Perm (cr n p (a :: (y ++ z)))
  | [], z, p, _, _, _, _ => .refl _
  | b :: y, z, p, hp, hy, hz, h => by
    obtain ⟨hb, hy'⟩ := inR_cons.mp hy
    obtain ⟨hne, hadj⟩ := h b List.mem_cons_self
    have hpb := inR_append hp (inR_one.mpr hb)
    have hpa := inR_append hp (inR_one.mpr ha)
    have ih := cr_pull h3 ha (y := y) (z := z) hpb hy' hz fun c hc => h c (List.mem_cons_of_mem _ hc)
    show (nf n (p ++ b :: p.reverse) :: cr n (p ++ [b]) (y ++ a :: z)).Perm (nf n (p ++ a :: p.reverse) :: nf n ((p ++ [a]) ++ b :: (p ++ [a]).reverse) :: cr n (p ++ [a] ++ [b]) (y ++ z))
    refine (ih.cons _).trans ?_
    show (nf n (p ++ b :: p.reverse) :: nf n ((p ++ [b]) ++ a :: (p ++ [b]).reverse) :: cr n (p ++ [b] ++ [a]) (y ++ z)).Perm _
    rw [cr_head hp h3 hb ha hadj hne, cr_head hp h3 ha hb (by rw [adj_comm]; exact hadj) (Ne.symm hne)]
    have e : cr n (p ++ [b] ++ [a]) (y ++ z) = cr n (p ++ [a] ++ [b]) (y ++ z) := by
      refine cr_congr h3 (inR_append hpb (inR_one.mpr ha)) (inR_append hpa (inR_one.mpr hb)) (inR_append hy' hz) ?_
      rw [List.append_assoc, List.append_assoc]
      exact act_left (act_swap (w := []) (by rw [adj_comm]; exact hadj) (Ne.symm hne))
    rw [e]
    exact .swap _ _ _
theorem cr_front (h3 : 3 ≤ n) (hp : inR n p) (hw : inR n w) (h : front n a w = true) : (cr n p w).Perm (cr n p (a :: w.erase a)) := by
  obtain ⟨y, z, e, hy, he⟩ := front_iff.mp h
  rw [he]
  subst e
  obtain ⟨h1, h2⟩ := inR_app.mp hw
  obtain ⟨h4, h5⟩ := inR_cons.mp h2
  exact cr_pull h3 h4 hp h1 h5 hy
theorem cr_form (h3 : 3 ≤ n) (w : Wrd) : ∀ p, inR n p → inR n w → (cr n p w).Perm (cr n p (form n w)) := by
  refine form_ind (n := n) (P := fun w => ∀ p, inR n p → inR n w → (cr n p w).Perm (cr n p (form n w))) (fun _ _ _ => .refl _) (fun w h ih p hp hw => ?_) w
  have hf := (pick_spec (n := n) h).1
  refine (cr_front h3 hp hw hf).trans ?_
  rw [form_cons h]
  exact (ih _ (inR_append hp (inR_one.mpr (hw _ (pick_mem h)))) (inR_erase hw)).cons _
/-- how often, up to two -/
def pc (n : Int) (p w t : Wrd) : Nat := (cr n p w).count t % 2
theorem pc_perm (h : (cr n p w).Perm (cr n q u)) : pc n p w t = pc n q u t := by
  unfold pc
  rw [h.count_eq]
theorem pc_append {t : Wrd} : pc n p (u ++ w) t = (pc n p u t + pc n (p ++ u) w t) % 2 := by
  unfold pc
  rw [cr_append, List.count_append]
  omega
theorem pc_twice (h3 : 3 ≤ n) (hp : inR n p) (ha : 0 ≤ a ∧ a < n) (hw : inR n w) {t : Wrd} : pc n p (a :: a :: w) t = pc n p w t := by
  have e1 : cr n p (a :: a :: w) = nf n (p ++ a :: p.reverse) :: nf n (p ++ a :: p.reverse) :: cr n p w := by
    show nf n _ :: nf n _ :: cr n (p ++ [a] ++ [a]) w = _
    have hpa := inR_append hp (inR_one.mpr ha)
    congr 2
    · refine (nf_eq h3 (inR_wall hpa ha) (inR_wall hp ha)).mpr ?_
      have e3 : p ++ [a] ++ a :: (p ++ [a]).reverse = p ++ (a :: a :: a :: p.reverse) := by simp
      rw [e3]
      exact act_left act_cons2
    · refine cr_congr h3 (inR_append hpa (inR_one.mpr ha)) hp hw ?_
      rw [List.append_assoc]
      have := act_left (c := p) (act_cons2 (n := n) (a := a) (w := []))
      rwa [List.append_nil] at this
  unfold pc
  rw [e1, List.count_cons, List.count_cons]
  split <;> omega
theorem pc_crs (h3 : 3 ≤ n) (hp : inR n p) (hc : inR n c) (hs : 0 ≤ s ∧ s < n) {t : Wrd} : pc n p (crs n c s) t = pc n p (c ++ [s]) t := by
  unfold crs
  split
  · rename_i h
    obtain ⟨y, z, e, hy, he⟩ := front_iff.mp h
    have ec : c = z.reverse ++ s :: y.reverse := by
      have := congrArg List.reverse e
      rw [List.reverse_reverse] at this
      rw [this]; simp
    have ee : (c.reverse.erase s).reverse = z.reverse ++ y.reverse := by rw [he]; simp
    have hin : inR n (c.reverse.erase s).reverse := inR_rev (inR_erase (inR_rev hc))
    rw [← pc_perm (cr_form h3 _ p hp hin), ee]
    rw [ec] at hc ⊢
    obtain ⟨hz, hc2⟩ := inR_app.mp hc
    obtain ⟨_, hy2⟩ := inR_cons.mp hc2
    have e2 : z.reverse ++ s :: y.reverse ++ [s] = z.reverse ++ (s :: (y.reverse ++ [s])) := by simp
    have hpz := inR_append hp hz
    have hs1 := inR_one.mpr hs
    rw [e2, pc_append, pc_append]
    have e3 : pc n (p ++ z.reverse) (s :: (y.reverse ++ [s])) t = pc n (p ++ z.reverse) y.reverse t := by
      rw [← pc_twice h3 hpz hs hy2]
      refine pc_perm ?_
      show (nf n _ :: cr n (p ++ z.reverse ++ [s]) (y.reverse ++ [s])).Perm (nf n _ :: cr n (p ++ z.reverse ++ [s]) (s :: y.reverse))
      have := cr_pull h3 hs (y := y.reverse) (z := []) (inR_append hpz hs1) hy2 inR_nil fun b hb => hy b (List.mem_reverse.mp hb)
      rw [List.append_nil] at this
      exact this.cons _
    rw [e3]
  · exact (pc_perm (cr_form h3 _ p hp (inR_append hc (inR_one.mpr hs)))).symm
theorem pc_tms (h3 : 3 ≤ n) (hp : inR n p) {t : Wrd} : ∀ {w c : Wrd}, NF n c → inR n w → pc n p (tms n c w) t = pc n p (c ++ w) t
  | [], c, _, _ => by rw [List.append_nil]; rfl
  | s :: w, c, hc, hw => by
    obtain ⟨hs, hw'⟩ := inR_cons.mp hw
    rw [tms_cons, pc_tms h3 hp (NF.crs h3 hc hs) hw', pc_append, pc_crs h3 hp hc.ir hs]
    have e : c ++ s :: w = (c ++ [s]) ++ w := by simp
    rw [e, pc_append (u := c ++ [s])]
    congr 2
    unfold pc
    rw [cr_congr h3 (inR_append hp (NF.crs h3 hc hs).ir) (inR_append hp (inR_append hc.ir (inR_one.mpr hs))) hw' (act_left (act_crs h3 hc hs))]
theorem pc_nf (h3 : 3 ≤ n) (hp : inR n p) (hw : inR n w) {t : Wrd} : pc n p (nf n w) t = pc n p w t := pc_tms h3 hp nf_nil hw
/-- up to two, only the cells count -/
theorem pc_congr (h3 : 3 ≤ n) (hp : inR n p) (hu : inR n u) (hw : inR n w) (h : act n u = act n w) {t : Wrd} : pc n p u t = pc n p w t := by
  rw [← pc_nf h3 hp hu, ← pc_nf h3 hp hw, (nf_eq h3 hu hw).mpr h]
/-- shortest words cross no wall twice -/
theorem cr_nodup (h3 : 3 ≤ n) : ∀ {w p : Wrd}, inR n p → inR n w → Red n w → (cr n p w).Nodup
  | [], _, _, _, _ => List.nodup_nil
  | a :: w, p, hp, hw, hr => by
    obtain ⟨ha, hw'⟩ := inR_cons.mp hw
    have hpa := inR_append hp (inR_one.mpr ha)
    refine List.nodup_cons.mpr ⟨fun hm => ?_, cr_nodup h3 hpa hw' (red_cons.mp hr).2⟩
    obtain ⟨y, b, z, e, ht⟩ := mem_cr.mp hm
    rw [e] at hw'
    obtain ⟨hy, hbz⟩ := inR_app.mp hw'
    obtain ⟨hb, hz⟩ := inR_cons.mp hbz
    have h1 := (nf_eq h3 (inR_wall hp ha) (inR_wall (inR_append hpa hy) hb)).mp ht
    have e2 : p ++ [a] ++ y ++ b :: (p ++ [a] ++ y).reverse = p ++ (a :: (y ++ b :: (y.reverse ++ [a]))) ++ p.reverse := by simp
    have e3 : p ++ a :: p.reverse = p ++ [a] ++ p.reverse := by simp
    rw [e2, e3] at h1
    have h2 := act_cj_inj h1
    -- a y b does what y does
    have h4 : act n (a :: (y ++ [b])) = act n y := by
      have k1 : act n ([a] ++ ([a] ++ y)) = act n ([a] ++ ((a :: (y ++ b :: (y.reverse ++ [a]))) ++ y)) := act_left (act_right h2)
      have k2 : [a] ++ ([a] ++ y) = a :: a :: y := rfl
      have k3 : [a] ++ ((a :: (y ++ b :: (y.reverse ++ [a]))) ++ y) = a :: a :: (y ++ b :: (y.reverse ++ [a] ++ y)) := by simp
      rw [k2, k3, act_cons2, act_cons2] at k1
      -- y = y b y⁻ a y
      have k4 : act n ((a :: (y ++ [b]))) = act n ((a :: (y ++ [b])) ++ []) := by rw [List.append_nil]
      have k5 : act n (y.reverse ++ y) = act n (y.reverse ++ (y ++ b :: (y.reverse ++ [a] ++ y))) := act_left k1
      rw [act_fore, ← List.append_assoc] at k5
      have k6 : act n ((y.reverse ++ y) ++ b :: (y.reverse ++ [a] ++ y)) = act n (b :: (y.reverse ++ [a] ++ y)) := by
        have := act_right (c := b :: (y.reverse ++ [a] ++ y)) (act_fore (n := n) (u := y))
        rw [List.nil_append] at this
        exact this
      rw [k6] at k5
      have k7 := act_rev_congr k5
      have k8 : (b :: (y.reverse ++ [a] ++ y)).reverse = (y.reverse ++ (a :: (y ++ [b]))) := by simp
      rw [k8] at k7
      have k9 : act n (y ++ ([] : Wrd).reverse) = act n (y ++ (y.reverse ++ (a :: (y ++ [b])))) := act_left k7
      rw [List.reverse_nil, List.append_nil, ← List.append_assoc] at k9
      have k10 : act n ((y ++ y.reverse) ++ a :: (y ++ [b])) = act n (a :: (y ++ [b])) := by
        have := act_right (c := a :: (y ++ [b])) (act_back (n := n) (u := y))
        rw [List.nil_append] at this
        exact this
      rw [k10] at k9
      exact k9.symm
    have h5 : act n (a :: w) = act n (y ++ z) := by
      rw [e]
      have k : a :: (y ++ b :: z) = (a :: (y ++ [b])) ++ z := by simp
      rw [k]
      exact act_right h4
    have h6 := ln_congr h3 hw (inR_append hy hz) h5
    rw [ln_red h3 hw hr] at h6
    have h7 := ln_le (n := n) (w := y ++ z)
    have h8 := congrArg List.length e
    simp only [List.length_append, List.length_cons] at h6 h7 h8
    omega
/-- words that cross no wall twice are shortest -/
theorem red_of_nodup (h3 : 3 ≤ n) (hp : inR n p) (hw : inR n w) (h : (cr n p w).Nodup) : Red n w := by
  rintro ⟨x, a, y, z, e, hy⟩
  subst e
  obtain ⟨hx, h1⟩ := inR_app.mp hw
  obtain ⟨ha, h2⟩ := inR_cons.mp h1
  obtain ⟨hyy, h4⟩ := inR_app.mp h2
  obtain ⟨_, hz⟩ := inR_cons.mp h4
  rw [cr_append] at h
  have h' := (List.nodup_append.mp h).2.1
  have hpx := inR_append hp hx
  have hpa := inR_append hpx (inR_one.mpr ha)
  refine (List.nodup_cons.mp (show (nf n (p ++ x ++ a :: (p ++ x).reverse) :: cr n (p ++ x ++ [a]) (y ++ a :: z)).Nodup from h')).1 (mem_cr.mpr ⟨y, a, z, rfl, ?_⟩)
  refine (nf_eq h3 (inR_wall hpx ha) (inR_wall (inR_append hpa hyy) ha)).mpr ?_
  have hpl : ∀ b ∈ y, b ≠ a ∧ adj n b a = true := fun b hb => ne_of_adj h3 (hy b hb)
  have e2 : p ++ x ++ [a] ++ y ++ a :: (p ++ x ++ [a] ++ y).reverse = (p ++ x) ++ (a :: (y ++ a :: (y.reverse ++ [a]))) ++ (p ++ x).reverse := by simp
  have e3 : p ++ x ++ a :: (p ++ x).reverse = (p ++ x) ++ [a] ++ (p ++ x).reverse := by simp
  rw [e2, e3]
  refine act_mid ?_
  funext v
  show refl n a v = refl n a (act n (y ++ a :: (y.reverse ++ [a])) v)
  rw [act_append]
  show _ = refl n a (act n y (refl n a (act n (y.reverse ++ [a]) v)))
  rw [act_pull hpl, refl_refl, ← act_append, ← List.append_assoc]
  have := act_right (c := [a]) (act_back (n := n) (u := y))
  rw [this]
  rfl
theorem pc_red (h3 : 3 ≤ n) (hp : inR n p) (hw : inR n w) (hr : Red n w) {t : Wrd} : pc n p w t = if t ∈ cr n p w then 1 else 0 := by
  unfold pc
  have h := cr_nodup h3 hp hw hr
  rw [List.Nodup.count h]
  split <;> rfl
end
end Mt

set_option Elab.async false
set_option linter.all false
set_option autoImplicit false
/-! Walls, sides, what lies between, middles (plain Lean). -/
namespace Mt
section
variable {n a b s : Int} {w u p q x y z c d m t a' b' : Wrd} {v v' : Vec}
/-- a wall -/
structure Wl (n : Int) (t : Wrd) : Prop where
  nfm : NF n t
  is : ∃ c s, inR n c ∧ (0 ≤ s ∧ s < n) ∧ act n t = act n (c ++ s :: c.reverse)
theorem Wl.mk' (h3 : 3 ≤ n) (hp : inR n p) (hs : 0 ≤ s ∧ s < n) : Wl n (nf n (p ++ s :: p.reverse)) := ⟨nf_nf h3 (inR_wall hp hs), p, s, hp, hs, act_nf h3 (inR_wall hp hs)⟩
theorem cr_wl (h3 : 3 ≤ n) (hp : inR n p) (hw : inR n w) (ht : t ∈ cr n p w) : Wl n t := by
  obtain ⟨y, b, z, e, rfl⟩ := mem_cr.mp ht
  subst e
  obtain ⟨hy, hb⟩ := inR_app.mp hw
  exact Wl.mk' h3 (inR_append hp hy) (inR_cons.mp hb).1
theorem Wl.conj (h3 : 3 ≤ n) (hq : inR n q) (h : Wl n t) : Wl n (cj n q t) := by
  obtain ⟨c, s, hc, hs, e⟩ := h.is
  have e2 : Mt.cj n q t = nf n ((q ++ c) ++ s :: (q ++ c).reverse) := by
    refine (nf_eq h3 (inR_cj hq h.nfm.ir) (inR_wall (inR_append hq hc) hs)).mpr ?_
    have k : q ++ c ++ s :: (q ++ c).reverse = q ++ (c ++ s :: c.reverse) ++ q.reverse := by simp
    rw [k]
    exact act_mid e
  rw [e2]
  exact Wl.mk' h3 (inR_append hq hc) hs
theorem act_wall_rev : act n (c ++ s :: c.reverse).reverse = act n (c ++ s :: c.reverse) := by
  congr 1
  simp
theorem Wl.twice (h : Wl n t) : act n (t ++ t) = act n [] := by
  obtain ⟨c, s, _, _, e⟩ := h.is
  have k : act n (t ++ t) = act n ((c ++ s :: c.reverse) ++ (c ++ s :: c.reverse).reverse) := act_app e (e.trans act_wall_rev.symm)
  rw [k, act_back]
theorem Wl.rev (h : Wl n t) : act n t.reverse = act n t := by
  obtain ⟨c, s, _, _, e⟩ := h.is
  rw [act_rev_congr e, act_wall_rev, e]
theorem count_map_on {α β : Type} [BEq α] [LawfulBEq α] [BEq β] [LawfulBEq β] {f : α → β} {b : α} : ∀ {l : List α}, (∀ a ∈ l, f a = f b → a = b) → (l.map f).count (f b) = l.count b
  | [], _ => rfl
  | a :: l, h => by
    rw [List.map_cons, List.count_cons, List.count_cons, count_map_on fun c hc => h c (List.mem_cons_of_mem _ hc)]
    congr 1
    by_cases e : a = b
    · subst e; simp
    · have : ¬ f a = f b := fun z => e (h a List.mem_cons_self z)
      simp [e, this]
theorem Wl.own (h3 : 3 ≤ n) (h : Wl n t) {T : Wrd} (hT : inR n T) (e : act n T = act n t) : cj n T t = t := by
  refine NF.ext h3 (nf_nf h3 (inR_cj hT h.nfm.ir)) h.nfm ?_
  rw [show act n (cj n T t) = act n (T ++ t ++ T.reverse) from act_nf h3 (inR_cj hT h.nfm.ir)]
  have k : act n (T ++ t ++ T.reverse) = act n (t ++ t ++ t.reverse) := act_app (act_app e rfl) (act_rev_congr e)
  rw [k]
  have k2 := act_right (c := t.reverse) h.twice
  rw [k2, List.nil_append, h.rev]
theorem Wl.pc_conj (h3 : 3 ≤ n) (h : Wl n t) {T : Wrd} (hT : inR n T) (e : act n T = act n t) (hc : inR n c) : (cr n T c).count t = (cr n [] c).count t := by
  have e1 : cr n T c = (cr n [] c).map (cj n T) := by
    have := cr_conj h3 hT (p := []) inR_nil hc
    rwa [List.append_nil] at this
  rw [e1]
  conv => lhs; rw [← h.own h3 hT e]
  exact count_map_on fun a ha q => cj_inj h3 hT (cr_nf h3 inR_nil hc a ha) h.nfm q
theorem Wl.pc_self (h3 : 3 ≤ n) (h : Wl n t) : pc n [] t t = 1 := by
  obtain ⟨c, s, hc, hs, e⟩ := h.is
  have hT := inR_wall hc hs
  rw [pc_congr h3 inR_nil h.nfm.ir hT e]
  unfold pc
  rw [cr_append, List.nil_append]
  have e1 : cr n c (s :: c.reverse) = t :: (cr n (c ++ s :: c.reverse) c).reverse := by
    show nf n (c ++ s :: c.reverse) :: cr n (c ++ [s]) c.reverse = _
    congr 1
    · exact NF.ext h3 (nf_nf h3 hT) h.nfm ((act_nf h3 hT).trans e.symm)
    · rw [← cr_back h3 hT hc]
      refine cr_congr h3 (inR_append hc (inR_one.mpr hs)) (inR_append hT hc) (inR_rev hc) ?_
      have k : c ++ s :: c.reverse ++ c = (c ++ [s]) ++ (c.reverse ++ c) := by simp
      rw [k]
      have := act_left (c := c ++ [s]) (act_fore (n := n) (u := c))
      rw [List.append_nil] at this
      exact this.symm
  rw [e1, List.count_append, List.count_cons, List.count_reverse, h.pc_conj h3 hT e.symm hc]
  simp
  omega
theorem Wl.pc_flip (h3 : 3 ≤ n) (h : Wl n t) (hc : inR n c) : pc n [] (t ++ c) t = (1 + pc n [] c t) % 2 := by
  rw [pc_append, h.pc_self h3, List.nil_append]
  congr 2
  unfold pc
  rw [h.pc_conj h3 h.nfm.ir rfl hc]
theorem pc_lt {p w t : Wrd} : pc n p w t < 2 := Nat.mod_lt _ (by omega)
theorem Wl.nearer (h3 : 3 ≤ n) (h : Wl n t) (hc : inR n c) (hp : pc n [] c t = 1) : ln n (t ++ c) < ln n c := by
  have hN := nf_nf h3 hc
  rw [← pc_nf h3 inR_nil hc, pc_red h3 inR_nil hN.ir hN.red] at hp
  have hm : t ∈ cr n [] (nf n c) := by
    by_cases q : t ∈ cr n [] (nf n c)
    · exact q
    · rw [if_neg q] at hp; cases hp
  obtain ⟨y, b, z, e, ht⟩ := mem_cr.mp hm
  rw [List.nil_append] at ht
  have hN2 := hN.ir
  rw [e] at hN2
  obtain ⟨hy, hbz⟩ := inR_app.mp hN2
  obtain ⟨hb, hz⟩ := inR_cons.mp hbz
  have e1 : act n (t ++ c) = act n (y ++ z) := by
    have k1 : act n t = act n (y ++ b :: y.reverse) := by rw [ht]; exact act_nf h3 (inR_wall hy hb)
    have k2 : act n c = act n (y ++ b :: z) := by rw [← e, act_nf h3 hc]
    rw [act_app k1 k2]
    have k3 : y ++ b :: y.reverse ++ (y ++ b :: z) = (y ++ [b]) ++ (y.reverse ++ y) ++ (b :: z) := by simp
    rw [k3, act_mid (act_fore (n := n) (u := y))]
    have k4 : y ++ [b] ++ [] ++ b :: z = y ++ (b :: b :: z) := by simp
    rw [k4]
    exact act_left act_cons2
  rw [ln_congr h3 (inR_append h.nfm.ir hc) (inR_append hy hz) e1, ← ln_nf h3 hc, hN.ln h3, e]
  have := ln_le (n := n) (w := y ++ z)
  simp only [List.length_append, List.length_cons] at this ⊢
  omega
/-- a cell lies beyond a wall just if the wall's mirror brings it nearer -/
theorem Wl.beyond (h3 : 3 ≤ n) (h : Wl n t) (hc : inR n c) : ln n (t ++ c) < ln n c ↔ pc n [] c t = 1 := by
  refine ⟨fun hl => ?_, h.nearer h3 hc⟩
  have hlt := pc_lt (n := n) (p := []) (w := c) (t := t)
  by_cases q : pc n [] c t = 1
  · exact q
  · have hf := h.pc_flip h3 hc
    have h0 : pc n [] c t = 0 := by omega
    rw [h0] at hf
    have := h.nearer h3 (inR_append h.nfm.ir hc) hf
    have e : ln n (t ++ (t ++ c)) = ln n c := by
      refine ln_congr h3 (inR_append h.nfm.ir (inR_append h.nfm.ir hc)) hc ?_
      rw [← List.append_assoc]
      have := act_right (c := c) h.twice
      rwa [List.nil_append] at this
    omega
/-- on which side a cell lies -/
abbrev sg (n : Int) (c t : Wrd) : Nat := pc n [] c t
theorem sg_congr (h3 : 3 ≤ n) (hc : inR n c) (hd : inR n d) (h : act n c = act n d) : sg n c t = sg n d t := pc_congr h3 inR_nil hc hd h
theorem sg_path : sg n (a' ++ u) t = (sg n a' t + pc n a' u t) % 2 := by
  have := pc_append (n := n) (p := []) (u := a') (w := u) (t := t)
  rwa [List.nil_append] at this
/-- a wall parts two cells just if each shortest word from the one to the other crosses it -/
theorem parts_cr (h3 : 3 ≤ n) (hc : inR n c) (hd : inR n d) (hu : inR n u) (hr : Red n u) (h : act n (c ++ u) = act n d) : sg n c t ≠ sg n d t ↔ t ∈ cr n c u := by
  have e1 : sg n d t = (sg n c t + pc n c u t) % 2 := by
    rw [← sg_path]
    exact sg_congr h3 hd (inR_append hc hu) h.symm
  rw [pc_red h3 hc hu hr] at e1
  have := pc_lt (n := n) (p := []) (w := c) (t := t)
  have : sg n c t < 2 := this
  split at e1
  · rename_i q
    exact ⟨fun _ => q, fun _ => by omega⟩
  · rename_i q
    exact ⟨fun z => absurd (by omega) z, fun z => absurd z q⟩

/-! ### how far -/
def dst (n : Int) (c d : Wrd) : Nat := ln n (c.reverse ++ d)
theorem dst_way (h3 : 3 ≤ n) (hc : NF n c) (hd : NF n d) : (way n c d).length = dst n c d := by
  rw [way_eq h3 hc hd]
  rfl
theorem dst_self (h3 : 3 ≤ n) (hc : inR n c) : dst n c c = 0 := (ln_zero h3 (inR_append (inR_rev hc) hc)).mpr act_fore
theorem dst_symm (h3 : 3 ≤ n) (hc : inR n c) (hd : inR n d) : dst n c d = dst n d c := by
  unfold dst
  rw [← ln_rev h3 (inR_append (inR_rev hc) hd)]
  simp
theorem dst_tri (h3 : 3 ≤ n) (hc : inR n c) (hd : inR n d) (hm : inR n m) : dst n c d ≤ dst n c m + dst n m d := by
  have e : act n (c.reverse ++ d) = act n ((c.reverse ++ m) ++ (m.reverse ++ d)) := by
    have k : (c.reverse ++ m) ++ (m.reverse ++ d) = c.reverse ++ (m ++ m.reverse) ++ d := by simp
    rw [k, act_mid (act_back (n := n) (u := m)), List.append_nil]
  unfold dst
  rw [ln_congr h3 (inR_append (inR_rev hc) hd) (inR_append (inR_append (inR_rev hc) hm) (inR_append (inR_rev hm) hd)) e]
  exact ln_app h3 (inR_append (inR_rev hc) hm) (inR_append (inR_rev hm) hd)
theorem act_fore_left : act n (c.reverse ++ (c ++ u)) = act n u := by
  rw [← List.append_assoc]
  have := act_right (c := u) (act_fore (n := n) (u := c))
  rwa [List.nil_append] at this
theorem act_back_left : act n (c ++ (c.reverse ++ u)) = act n u := by
  rw [← List.append_assoc]
  have := act_right (c := u) (act_back (n := n) (u := c))
  rwa [List.nil_append] at this
theorem dst_app (h3 : 3 ≤ n) (hc : inR n c) (hd : inR n d) (hu : inR n u) (h : act n (c ++ u) = act n d) : dst n c d = ln n u := by
  refine ln_congr h3 (inR_append (inR_rev hc) hd) hu ?_
  have : act n (c.reverse ++ d) = act n (c.reverse ++ (c ++ u)) := act_left h.symm
  rw [this, act_fore_left]
theorem dst_congr (h3 : 3 ≤ n) {c' d' : Wrd} (hc : inR n c) (hd : inR n d) (hc' : inR n c') (hd' : inR n d') (h : act n c = act n c') (h' : act n d = act n d') : dst n c d = dst n c' d' :=
  ln_congr h3 (inR_append (inR_rev hc) hd) (inR_append (inR_rev hc') hd') (act_app (act_rev_congr h) h')
theorem dst_zero (h3 : 3 ≤ n) (hc : NF n c) (hd : NF n d) (h : dst n c d = 0) : c = d := by
  have e := (ln_zero h3 (inR_append (inR_rev hc.ir) hd.ir)).mp h
  refine NF.ext h3 hc hd ?_
  have := act_left (c := c) e
  rw [act_back_left, List.append_nil] at this
  exact this.symm
/-- a shortest word from one to the other -/
theorem way_spec (h3 : 3 ≤ n) (hc : NF n c) (hd : NF n d) : NF n (way n c d) ∧ act n (c ++ way n c d) = act n d ∧ (way n c d).length = dst n c d := by
  refine ⟨by rw [way_eq h3 hc hd]; exact nf_nf h3 (inR_append (inR_rev hc.ir) hd.ir), ?_, dst_way h3 hc hd⟩
  rw [way_eq h3 hc hd, act_left (act_nf h3 (inR_append (inR_rev hc.ir) hd.ir)), act_back_left]
/-- on a shortest road -/
def mid (n : Int) (c m d : Wrd) : Prop := dst n c m + dst n m d = dst n c d
theorem mid_iff (h3 : 3 ≤ n) (hc : NF n c) (hm : NF n m) (hd : NF n d) : mid n c m d ↔ ∀ t, ¬ (sg n c t ≠ sg n m t ∧ sg n m t ≠ sg n d t) := by
  obtain ⟨u1, u2, u3⟩ := way_spec h3 hc hm
  obtain ⟨v1, v2, v3⟩ := way_spec h3 hm hd
  have e1 : act n (c ++ (way n c m ++ way n m d)) = act n d := by
    rw [← List.append_assoc, act_right u2, v2]
  have ed := dst_app h3 hc.ir hd.ir (inR_append u1.ir v1.ir) e1
  have ec : cr n (c ++ way n c m) (way n m d) = cr n m (way n m d) := cr_congr h3 (inR_append hc.ir u1.ir) hm.ir v1.ir u2
  have eh : cr n c (way n c m ++ way n m d) = cr n c (way n c m) ++ cr n m (way n m d) := by rw [cr_append, ec]
  have k1 : ∀ t, sg n c t ≠ sg n m t ↔ t ∈ cr n c (way n c m) := fun t => parts_cr h3 hc.ir hm.ir u1.ir u1.red u2
  have k2 : ∀ t, sg n m t ≠ sg n d t ↔ t ∈ cr n m (way n m d) := fun t => parts_cr h3 hm.ir hd.ir v1.ir v1.red v2
  unfold mid
  constructor
  · intro h t ⟨h1, h2⟩
    have hr : Red n (way n c m ++ way n m d) := red_of_ln h3 (inR_append u1.ir v1.ir) (by rw [← ed, ← h, List.length_append, u3, v3])
    have := cr_nodup h3 hc.ir (inR_append u1.ir v1.ir) hr
    rw [eh] at this
    exact (List.nodup_append.mp this).2.2 t ((k1 t).mp h1) t ((k2 t).mp h2) rfl
  · intro h
    have hn : (cr n c (way n c m ++ way n m d)).Nodup := by
      rw [eh]
      refine List.nodup_append.mpr ⟨cr_nodup h3 hc.ir u1.ir u1.red, cr_nodup h3 hm.ir v1.ir v1.red, fun a ha b hb e => ?_⟩
      subst e
      exact h a ⟨(k1 a).mpr ha, (k2 a).mpr hb⟩
    have hr := red_of_nodup h3 hc.ir (inR_append u1.ir v1.ir) hn
    rw [ed, ln_red h3 (inR_append u1.ir v1.ir) hr, List.length_append, u3, v3]
theorem sg_eq (h3 : 3 ≤ n) (hc : NF n c) (hd : NF n d) (h : ∀ t, sg n c t = sg n d t) : c = d := by
  obtain ⟨u1, u2, u3⟩ := way_spec h3 hc hd
  cases q : way n c d with
  | nil =>
    rw [q] at u3
    exact dst_zero h3 hc hd u3.symm
  | cons a u =>
    have := (parts_cr h3 hc.ir hd.ir u1.ir u1.red u2 (t := nf n (c ++ a :: c.reverse))).mpr (by rw [q]; exact List.mem_cons_self)
    exact absurd (h _) this
/-- there is one middle at most -/
theorem middle_one (h3 : 3 ≤ n) (ha : NF n a') (hb : NF n b') (hc : NF n c) (hm : NF n m) (hd : NF n d) (h1 : mid n a' m b') (h2 : mid n b' m c) (h4 : mid n a' m c) (g1 : mid n a' d b') (g2 : mid n b' d c) (g3 : mid n a' d c) : m = d := by
  refine sg_eq h3 hm hd fun t => ?_
  have l := fun (w : Wrd) => pc_lt (n := n) (p := []) (w := w) (t := t)
  have l1 : sg n a' t < 2 := l a'
  have l2 : sg n b' t < 2 := l b'
  have l3 : sg n c t < 2 := l c
  have l4 : sg n m t < 2 := l m
  have l5 : sg n d t < 2 := l d
  have q1 := (mid_iff h3 ha hm hb).mp h1 t
  have q2 := (mid_iff h3 hb hm hc).mp h2 t
  have q3 := (mid_iff h3 ha hm hc).mp h4 t
  have r1 := (mid_iff h3 ha hd hb).mp g1 t
  have r2 := (mid_iff h3 hb hd hc).mp g2 t
  have r3 := (mid_iff h3 ha hd hc).mp g3 t
  omega
/-- what two words begin with alike -/
theorem meet_ex (h3 : 3 ≤ n) : ∀ (k : Nat) (u w : Wrd), u.length ≤ k → inR n u → inR n w → Red n u → Red n w →
    ∃ p u' w', inR n p ∧ inR n u' ∧ inR n w' ∧ act n u = act n (p ++ u') ∧ act n w = act n (p ++ w') ∧ u.length = p.length + u'.length ∧ w.length = p.length + w'.length ∧ Red n (u'.reverse ++ w')
  | k, u, w, hk, hu, hw, ru, rw' => by
    by_cases h : ∃ s, front n s u = true ∧ front n s w = true
    · obtain ⟨s, h1, h2⟩ := h
      have l1 := front_len h1
      have l2 := front_len h2
      cases k with
      | zero => omega
      | succ k =>
        obtain ⟨p, u', w', p1, p2, p3, p4, p5, p6, p7, p8⟩ := meet_ex h3 k (u.erase s) (w.erase s) (by omega) (inR_erase hu) (inR_erase hw) (red_erase ru h1).1 (red_erase rw' h2).1
        refine ⟨s :: p, u', w', inR_cons.mpr ⟨hu s (front_mem h1), p1⟩, p2, p3, ?_, ?_, by rw [List.length_cons]; omega, by rw [List.length_cons]; omega, p8⟩
        · funext v
          rw [act_front h1, p4]
          rfl
        · funext v
          rw [act_front h2, p5]
          rfl
    · refine ⟨[], u, w, inR_nil, hu, hw, rfl, rfl, by simp, by simp, ?_⟩
      rintro ⟨x, a, y, z, e, hy⟩
      rcases split_mid e with ⟨r, h1, h2⟩ | ⟨r, h1, h2⟩
      · rcases split_mid h2.symm with ⟨r2, h4, h5⟩ | ⟨r2, h4, h5⟩
        · exact red_rev.mpr ru ⟨x, a, y, r2, by rw [h1, h4], hy⟩
        · refine h ⟨a, ?_, ?_⟩
          · have := congrArg List.reverse h1
            rw [List.reverse_reverse] at this
            rw [this, List.reverse_append, List.reverse_cons, List.append_assoc]
            exact front_of fun b hb => hy b (by rw [h4]; exact List.mem_append_left _ (List.mem_reverse.mp hb))
          · rw [h5]
            exact front_of fun b hb => hy b (by rw [h4]; exact List.mem_append_right _ hb)
      · exact rw' ⟨r, a, y, z, h2, hy⟩
/-- there is a middle -/
theorem middle_ex (h3 : 3 ≤ n) (ha : NF n a') (hb : NF n b') (hc : NF n c) : ∃ m, NF n m ∧ mid n a' m b' ∧ mid n b' m c ∧ mid n a' m c := by
  obtain ⟨u1, u2, u3⟩ := way_spec h3 ha hb
  obtain ⟨v1, v2, v3⟩ := way_spec h3 ha hc
  obtain ⟨p, u, w, hp, hu, hw, e1, e2, l1, l2, hr⟩ := meet_ex h3 _ _ _ (Nat.le_refl _) u1.ir v1.ir u1.red v1.red
  have hm := NF.tms h3 ha hp
  have am := act_tms h3 ha hp
  have rp : Red n (p ++ u) := (red_congr h3 u1.ir (inR_append hp hu) e1 (by rw [List.length_append]; exact l1)).mp u1.red
  have rq : Red n (p ++ w) := (red_congr h3 v1.ir (inR_append hp hw) e2 (by rw [List.length_append]; exact l2)).mp v1.red
  have lp : ln n p = p.length := by
    have g1 := ln_app h3 hp hu
    have g2 := ln_le (n := n) (w := p)
    have g3 := ln_le (n := n) (w := u)
    rw [ln_red h3 (inR_append hp hu) rp, List.length_append] at g1
    omega
  have lu : ln n u = u.length := by
    have g1 := ln_app h3 hp hu
    have g2 := ln_le (n := n) (w := p)
    have g3 := ln_le (n := n) (w := u)
    rw [ln_red h3 (inR_append hp hu) rp, List.length_append] at g1
    omega
  have lw : ln n w = w.length := by
    have g1 := ln_app h3 hp hw
    have g2 := ln_le (n := n) (w := p)
    have g3 := ln_le (n := n) (w := w)
    rw [ln_red h3 (inR_append hp hw) rq, List.length_append] at g1
    omega
  have emb : act n (tms n a' p ++ u) = act n b' := by
    rw [act_right am, List.append_assoc, ← act_left e1, u2]
  have emc : act n (tms n a' p ++ w) = act n c := by
    rw [act_right am, List.append_assoc, ← act_left e2, v2]
  have ebc : act n (b' ++ (u.reverse ++ w)) = act n c := by
    rw [← emc, ← List.append_assoc]
    refine act_right ?_
    rw [act_right emb.symm, List.append_assoc]
    have := act_left (c := tms n a' p) (act_back (n := n) (u := u))
    rwa [List.append_nil] at this
  have d1 := dst_app h3 ha.ir hm.ir hp am.symm
  have d2 := dst_app h3 hm.ir hb.ir hu emb
  have d3 := dst_app h3 hm.ir hc.ir hw emc
  have d4 := dst_app h3 hb.ir hc.ir (inR_append (inR_rev hu) hw) ebc
  rw [ln_red h3 (inR_append (inR_rev hu) hw) hr, List.length_append, List.length_reverse] at d4
  have d5 := dst_symm h3 hb.ir hm.ir
  refine ⟨tms n a' p, hm, ?_, ?_, ?_⟩
  · show _ + _ = _; omega
  · show _ + _ = _; omega
  · show _ + _ = _; omega
end
end Mt

set_option Elab.async false
set_option linter.all false
set_option autoImplicit false
/-! Walls come down to sides; sides over which one comes nearer; motions (plain Lean). -/
namespace Mt
section
variable {n a b s : Int} {w u p q x y z c d m t : Wrd} {v v' : Vec}
theorem act_pull_word (h : ∀ b ∈ y, b ≠ a ∧ adj n b a = true) : act n (y ++ a :: z) = act n (a :: (y ++ z)) := by
  funext v
  rw [act_append]
  show act n y (refl n a (act n z v)) = refl n a (act n (y ++ z) v)
  rw [act_pull h, act_append]
/-- a wall told by a word that is no shortest one is told by a shorter one -/
theorem pal_less (h3 : 3 ≤ n) (hc : inR n c) (hs : 0 ≤ s ∧ s < n) (h : ¬ Red n (c ++ s :: c.reverse)) : ∃ c', inR n c' ∧ c'.length < c.length ∧ act n (c ++ s :: c.reverse) = act n (c' ++ s :: c'.reverse) := by
  by_cases hr : Red n c
  · have key : ∀ x a r, c = x ++ a :: r → (∀ b ∈ r, adj n b a = true) → (s = a ∨ adj n s a = true) → ∃ c', inR n c' ∧ c'.length < c.length ∧ act n (c ++ s :: c.reverse) = act n (c' ++ s :: c'.reverse) := by
      intro x a r e hy hsa
      have hy' : ∀ b ∈ r, b ≠ a ∧ adj n b a = true := fun b hb => ne_of_adj h3 (hy b hb)
      rw [e] at hc
      obtain ⟨hx, har⟩ := inR_app.mp hc
      obtain ⟨ha, hr'⟩ := inR_cons.mp har
      have e0 : c ++ s :: c.reverse = x ++ ((a :: r) ++ (s :: (r.reverse ++ [a]))) ++ x.reverse := by rw [e]; simp
      rcases hsa with rfl | hsa
      · refine ⟨x, hx, by rw [e]; simp, ?_⟩
        have e2 : x ++ s :: x.reverse = x ++ [s] ++ x.reverse := by simp
        rw [e0, e2]
        refine act_mid ?_
        have k1 : (s :: r) ++ (s :: (r.reverse ++ [s])) = [s] ++ (r ++ s :: (r.reverse ++ [s])) := by simp
        rw [k1, act_left (act_pull_word hy')]
        show act n (s :: s :: (r ++ (r.reverse ++ [s]))) = _
        rw [act_cons2, ← List.append_assoc]
        have := act_right (c := [s]) (act_back (n := n) (u := r))
        rwa [List.nil_append] at this
      · refine ⟨x ++ r, inR_append hx hr', by rw [e]; simp, ?_⟩
        have e2 : x ++ r ++ s :: (x ++ r).reverse = x ++ (r ++ s :: r.reverse) ++ x.reverse := by simp
        rw [e0, e2]
        refine act_mid ?_
        have k1 : (a :: r) ++ (s :: (r.reverse ++ [a])) = [a] ++ ((r ++ (s :: r.reverse)) ++ a :: []) := by simp
        have hy2 : ∀ b ∈ r ++ (s :: r.reverse), b ≠ a ∧ adj n b a = true := fun b hb => by
          rcases List.mem_append.mp hb with q | q
          · exact hy' b q
          · rcases List.mem_cons.mp q with q | q
            · rw [q]; exact ne_of_adj h3 hsa
            · exact hy' b (List.mem_reverse.mp q)
        rw [k1, act_left (act_pull_word hy2)]
        show act n (a :: a :: _) = _
        rw [act_cons2, List.append_nil]
    have hb : Bad n (c ++ s :: c.reverse) := Classical.byContradiction fun q => h q
    obtain ⟨x, a, y, z, e, hy⟩ := hb
    rcases split_mid e with ⟨r, h1, h2⟩ | ⟨r, h1, h2⟩
    · rcases split_mid h2.symm with ⟨r2, h4, h5⟩ | ⟨r2, h4, h5⟩
      · exact absurd ⟨x, a, y, r2, by rw [h1, h4], hy⟩ hr
      · have hyr : ∀ b ∈ r, adj n b a = true := fun b hb => hy b (by rw [h4]; exact List.mem_append_left _ hb)
        cases r2 with
        | nil =>
          have := (List.cons.inj h5).1
          exact key x a r h1 hyr (.inl this)
        | cons s' r3 =>
          have e1 := (List.cons.inj h5).1
          subst e1
          exact key x a r h1 hyr (.inr (hy s (by rw [h4]; simp)))
    · cases r with
      | nil =>
        obtain ⟨e1, e2⟩ := List.cons.inj h2
        subst e1
        have e3 : c = z.reverse ++ s :: y.reverse := by
          have := congrArg List.reverse e2
          rw [List.reverse_reverse] at this
          rw [this]; simp
        exact key z.reverse s y.reverse e3 (fun b hb => hy b (List.mem_reverse.mp hb)) (.inl rfl)
      | cons s' r3 =>
        obtain ⟨e1, e2⟩ := List.cons.inj h2
        exact absurd ⟨r3, a, y, z, e2, hy⟩ (red_rev.mpr hr)
  · have hN := nf_nf h3 hc
    refine ⟨nf n c, hN.ir, ?_, act_wall (act_nf h3 hc).symm⟩
    have h1 := ln_le (n := n) (w := c)
    have h2 : ln n c ≠ c.length := fun q => hr (red_of_ln h3 hc q)
    show ln n c < _
    omega
theorem pal_red (h3 : 3 ≤ n) : ∀ (k : Nat) (c : Wrd) (s : Int), c.length ≤ k → inR n c → 0 ≤ s ∧ s < n → ∃ c', inR n c' ∧ act n (c ++ s :: c.reverse) = act n (c' ++ s :: c'.reverse) ∧ Red n (c' ++ s :: c'.reverse)
  | k, c, s, hk, hc, hs => by
    by_cases h : Red n (c ++ s :: c.reverse)
    · exact ⟨c, hc, rfl, h⟩
    · obtain ⟨c', h1, h2, h4⟩ := pal_less h3 hc hs h
      cases k with
      | zero => omega
      | succ k =>
        obtain ⟨d, d1, d2, d3⟩ := pal_red h3 k c' s (by omega) h1 hs
        exact ⟨d, d1, h4.trans d2, d3⟩
theorem Wl.pal (h3 : 3 ≤ n) (h : Wl n t) : ∃ c s, inR n c ∧ (0 ≤ s ∧ s < n) ∧ act n t = act n (c ++ s :: c.reverse) ∧ t.length = 2 * c.length + 1 := by
  obtain ⟨c, s, hc, hs, e⟩ := h.is
  obtain ⟨c', h1, h2, h4⟩ := pal_red h3 _ c s (Nat.le_refl _) hc hs
  refine ⟨c', s, h1, hs, e.trans h2, ?_⟩
  rw [← h.nfm.ln h3, ln_congr h3 h.nfm.ir (inR_wall h1 hs) (e.trans h2), ln_red h3 (inR_wall h1 hs) h4]
  simp
  omega
theorem Wl.odd (h3 : 3 ≤ n) (h : Wl n t) : t.length % 2 = 1 := by
  obtain ⟨c, s, _, _, _, e⟩ := h.pal h3
  omega
theorem Wl.single (h3 : 3 ≤ n) (hs : 0 ≤ s ∧ s < n) : Wl n [s] := by
  have h1 : NF n [s] := ⟨inR_one.mpr hs, red_cons.mpr ⟨rfl, red_nil⟩, by
    rw [form_cons (by simp)]
    have : pick n [s] = s := pick_eq (by simp) front_head fun b hb => by
      have := front_mem hb
      rw [List.mem_singleton.mp this]
      exact Int.le_refl _
    rw [this]
    simp [form_nil]⟩
  exact ⟨h1, [], s, inR_nil, hs, rfl⟩
/-- a wall seen from over a side -/
theorem Wl.turned (h3 : 3 ≤ n) (h : Wl n t) (hs : 0 ≤ s ∧ s < n) : Wl n (nf n (s :: t ++ [s])) := h.conj h3 (q := [s]) (inR_one.mpr hs)
/-- each wall that is no side comes nearer over some side -/
theorem Wl.down (h3 : 3 ≤ n) (h : Wl n t) (hl : 1 < t.length) : ∃ s, (0 ≤ s ∧ s < n) ∧ ln n (s :: t ++ [s]) < t.length := by
  obtain ⟨c, r, hc, hr, e, l⟩ := h.pal h3
  cases c with
  | nil => simp at l; omega
  | cons s c =>
    obtain ⟨hs, hc'⟩ := inR_cons.mp hc
    refine ⟨s, hs, ?_⟩
    have e2 : act n (s :: t ++ [s]) = act n (c ++ r :: c.reverse) := by
      have k1 : act n ([s] ++ t ++ [s]) = act n ([s] ++ (s :: c ++ r :: (s :: c).reverse) ++ [s]) := act_mid e
      have k2 : [s] ++ (s :: c ++ r :: (s :: c).reverse) ++ [s] = s :: s :: (c ++ r :: c.reverse) ++ [s, s] := by simp
      rw [k2] at k1
      have k4 : act n ([] ++ (s :: s :: (c ++ r :: c.reverse)) ++ [s, s]) = act n ([] ++ (c ++ r :: c.reverse) ++ [s, s]) := act_mid act_cons2
      rw [List.nil_append, List.nil_append] at k4
      show act n ([s] ++ t ++ [s]) = _
      rw [k1, k4]
      have := act_left (c := c ++ r :: c.reverse) (act_cons2 (n := n) (a := s) (w := []))
      rwa [List.append_nil] at this
    have h1 : inR n (s :: t ++ [s]) := inR_append (inR_cons.mpr ⟨hs, h.nfm.ir⟩) (inR_one.mpr hs)
    rw [ln_congr h3 h1 (inR_wall hc' hr) e2, l]
    have := ln_le (n := n) (w := c ++ r :: c.reverse)
    simp only [List.length_append, List.length_cons, List.length_reverse] at this ⊢
    omega

/-! ### sides over which one comes nearer -/
def dsc (n : Int) (c : Wrd) (s : Int) : Bool := front n s c.reverse
theorem crs_lt : (crs n c s).length < c.length ↔ dsc n c s = true := by
  have := crs_len (n := n) (c := c) (s := s)
  unfold dsc
  split at this
  · rename_i h
    have h2 := front_len h
    rw [List.length_reverse] at h2
    exact ⟨fun _ => h, fun _ => by omega⟩
  · rename_i h
    exact ⟨fun _ => by omega, fun q => absurd q h⟩
theorem front_two : ∀ {w : Wrd} {a b : Int}, front n a w = true → front n b w = true → a ≠ b → adj n a b = true
  | [], _, _, h, _, _ => by cases h
  | d :: w, a, b, h1, h2, hne => by
    have h1' : (if d = a then true else adj n d a && front n a w) = true := h1
    have h2' : (if d = b then true else adj n d b && front n b w) = true := h2
    by_cases q1 : d = a
    · subst q1
      rw [if_neg hne, Bool.and_eq_true] at h2'
      exact h2'.1
    · rw [if_neg q1, Bool.and_eq_true] at h1'
      by_cases q2 : d = b
      · subst q2
        rw [adj_comm]
        exact h1'.1
      · rw [if_neg q2, Bool.and_eq_true] at h2'
        exact front_two h1'.2 h2'.2 hne
theorem adj_three (h5 : 5 ≤ n) (ha : 0 ≤ a ∧ a < n) (hb : 0 ≤ b ∧ b < n) (hs : 0 ≤ s ∧ s < n) (h1 : adj n a b = true) (h2 : adj n b s = true) (h4 : adj n a s = true) : False := by
  unfold adj at h1 h2 h4
  rw [decide_eq_true_eq] at h1 h2 h4
  omega
/-- no more than two sides, which meet -/
theorem fronts_two (h5 : 5 ≤ n) (hw : inR n w) : ∀ {l : List Int}, l.Nodup → (∀ s ∈ l, front n s w = true) → l.length ≤ 2
  | [], _, _ => by simp
  | [_], _, _ => by simp
  | [_, _], _, _ => by simp
  | a :: b :: s :: l, hn, h => by
    exfalso
    have m1 := h a (by simp)
    have m2 := h b (by simp)
    have m3 := h s (by simp)
    have hn' := hn
    simp only [List.nodup_cons, List.mem_cons, not_or] at hn
    exact adj_three h5 (hw a (front_mem m1)) (hw b (front_mem m2)) (hw s (front_mem m3)) (front_two m1 m2 hn.1.1) (front_two m2 m3 hn.2.1.1) (front_two m1 m3 hn.1.2.1)
theorem front_some (h : w ≠ []) : ∃ s, s ∈ w ∧ front n s w = true := ⟨pick n w, pick_mem h, (pick_spec h).1⟩

/-! ### turns -/
/-- a turn of the sides -/
structure Trn (n : Int) (f g : Int → Int) : Prop where
  fg : ∀ i, f (g i) = i
  gf : ∀ i, g (f i) = i
  fr : ∀ i, 0 ≤ i ∧ i < n → 0 ≤ f i ∧ f i < n
  gr : ∀ i, 0 ≤ i ∧ i < n → 0 ≤ g i ∧ g i < n
  ad : ∀ i j, 0 ≤ i ∧ i < n → 0 ≤ j ∧ j < n → adj n (f i) (f j) = adj n i j
section
variable {f g : Int → Int}
theorem Trn.inj (T : Trn n f g) (h : f a = f b) : a = b := by rw [← T.gf a, h, T.gf]
theorem Trn.inv (T : Trn n f g) : Trn n g f := ⟨T.gf, T.fg, T.gr, T.fr, fun i j hi hj => by
  rw [← T.ad _ _ (T.gr i hi) (T.gr j hj), T.fg, T.fg]⟩
theorem Trn.inR (T : Trn n f g) (h : inR n w) : inR n (w.map f) := fun b hb => by
  obtain ⟨a, ha, rfl⟩ := List.mem_map.mp hb
  exact T.fr a (h a ha)
theorem sm_perm {l m : List Int} (h : l.Perm m) : sm l v = sm m v := by
  unfold sm
  induction h with
  | nil => rfl
  | cons a _ ih => rw [List.map_cons, List.map_cons, List.sum_cons, List.sum_cons, ih]
  | swap a b l => simp only [List.map_cons, List.sum_cons]; omega
  | trans _ _ ih1 ih2 => exact ih1.trans ih2
theorem Trn.others (T : Trn n f g) (ha : 0 ≤ a ∧ a < n) : (others n (f a)).Perm ((others n a).map f) := by
  refine (List.perm_ext_iff_of_nodup nodup_others ?_).mpr fun j => ?_
  · rw [List.nodup_iff_pairwise_ne, List.pairwise_map]
    exact (List.nodup_iff_pairwise_ne.mp nodup_others).imp fun h q => h (T.inj q)
  · rw [mem_others, List.mem_map]
    constructor
    · rintro ⟨h1, h2, h4⟩
      refine ⟨g j, mem_others.mpr ⟨T.gr j h1, fun q => h2 (by rw [← q, T.fg]), ?_⟩, T.fg j⟩
      rw [← T.ad _ _ (T.gr j h1) ha, T.fg]
      exact h4
    · rintro ⟨i, hi, rfl⟩
      obtain ⟨h1, h2, h4⟩ := mem_others.mp hi
      exact ⟨T.fr i h1, fun q => h2 (T.inj q), by rw [T.ad _ _ h1 ha]; exact h4⟩
theorem Trn.refl (T : Trn n f g) (ha : 0 ≤ a ∧ a < n) : (fun i => refl n (f a) v (f i)) = refl n a fun i => v (f i) := by
  funext i
  have e : wt n (f a) v = wt n a fun i => v (f i) := by
    unfold wt
    congr 1
    rw [sm_perm (T.others ha)]
    unfold sm
    rw [List.map_map]
    rfl
  unfold Mt.refl
  by_cases h : i = a
  · rw [if_pos h, if_pos (by rw [h]), e]
  · rw [if_neg h, if_neg fun q => h (T.inj q)]
theorem Trn.act (T : Trn n f g) : ∀ {w : Wrd} {v : Vec}, Mt.inR n w → (fun i => act n (w.map f) v (f i)) = act n w fun i => v (f i)
  | [], _, _ => rfl
  | a :: w, v, hw => by
    obtain ⟨ha, hw'⟩ := inR_cons.mp hw
    show (fun i => Mt.refl n (f a) (Mt.act n (w.map f) v) (f i)) = Mt.refl n a (Mt.act n w fun i => v (f i))
    rw [T.refl ha, T.act hw']
theorem Trn.congr (T : Trn n f g) (hu : Mt.inR n u) (hw : Mt.inR n w) (h : Mt.act n u = Mt.act n w) : Mt.act n (u.map f) = Mt.act n (w.map f) := by
  funext v i
  have e1 := congrFun (T.act hu (v := v)) (g i)
  have e2 := congrFun (T.act hw (v := v)) (g i)
  simp only [T.fg] at e1 e2
  rw [e1, e2, h]
theorem Trn.front (T : Trn n f g) (hs : 0 ≤ s ∧ s < n) : ∀ {w : Wrd}, Mt.inR n w → front n (f s) (w.map f) = front n s w
  | [], _ => rfl
  | b :: w, hw => by
    obtain ⟨hb, hw'⟩ := inR_cons.mp hw
    show (if f b = f s then true else adj n (f b) (f s) && Mt.front n (f s) (w.map f)) = (if b = s then true else adj n b s && Mt.front n s w)
    by_cases h : b = s
    · rw [if_pos h, if_pos (by rw [h])]
    · rw [if_neg h, if_neg fun q => h (T.inj q), T.ad _ _ hb hs, T.front hs hw']
theorem Trn.red (T : Trn n f g) : ∀ {w : Wrd}, Mt.inR n w → Red n w → Red n (w.map f)
  | [], _, _ => red_nil
  | b :: w, hw, h => by
    obtain ⟨hb, hw'⟩ := inR_cons.mp hw
    obtain ⟨h1, h2⟩ := red_cons.mp h
    exact red_cons.mpr ⟨by rw [T.front hb hw']; exact h1, T.red hw' h2⟩
theorem Trn.ln (T : Trn n f g) (h3 : 3 ≤ n) (hw : Mt.inR n w) : ln n (w.map f) = ln n w := by
  have hN := nf_nf h3 hw
  rw [ln_congr h3 (T.inR hw) (T.inR hN.ir) (T.congr hw hN.ir (act_nf h3 hw).symm), ln_red h3 (T.inR hN.ir) (T.red hN.ir hN.red), List.length_map]
  rfl
end
/-! motions -/
/-- where a motion (goal, turn) leads a cell -/
def mv (n : Int) (g : Wrd) (f : Int → Int) (c : Wrd) : Wrd := tms n g (form n (c.map f))
section
variable {f f' g : Wrd} {F G : Int → Int}
theorem mv_both (h3 : 3 ≤ n) (T : Trn n F G) (hg : NF n g) (hc : NF n c) : NF n (mv n g F c) ∧ act n (mv n g F c) = act n (g ++ c.map F) := by
  have h1 := T.inR hc.ir
  have h2 := T.red hc.ir hc.red
  have hf := inR_form h1
  refine ⟨NF.tms h3 hg hf, ?_⟩
  show act n (tms n g (form n (c.map F))) = _
  rw [act_tms h3 hg hf]
  exact act_left (act_form _)
theorem mv_nf (h3 : 3 ≤ n) (T : Trn n F G) (hg : NF n g) (hc : NF n c) : NF n (mv n g F c) := (mv_both h3 T hg hc).1
theorem act_mv (h3 : 3 ≤ n) (T : Trn n F G) (hg : NF n g) (hc : NF n c) : act n (mv n g F c) = act n (g ++ c.map F) := (mv_both h3 T hg hc).2
/-- over a side and then led is led and then over the turned side -/
theorem mv_crs (h3 : 3 ≤ n) (T : Trn n F G) (hg : NF n g) (hc : NF n c) (hs : 0 ≤ s ∧ s < n) : mv n g F (crs n c s) = crs n (mv n g F c) (F s) := by
  have h1 := NF.crs h3 hc hs
  have h2 := mv_nf h3 T hg hc
  refine NF.ext h3 (mv_nf h3 T hg h1) (NF.crs h3 h2 (T.fr s hs)) ?_
  rw [act_mv h3 T hg h1, act_crs h3 h2 (T.fr s hs), act_right (act_mv h3 T hg hc), List.append_assoc]
  refine act_left ?_
  rw [T.congr h1.ir (inR_append hc.ir (inR_one.mpr hs)) (act_crs h3 hc hs), List.map_append]
  rfl
theorem mv_dst (h3 : 3 ≤ n) (T : Trn n F G) (hg : NF n g) (hc : NF n c) (hd : NF n d) : dst n (mv n g F c) (mv n g F d) = dst n c d := by
  have h1 := mv_nf h3 T hg hc
  have h2 := mv_nf h3 T hg hd
  have h4 := inR_append (inR_rev hc.ir) hd.ir
  have e : act n (mv n g F c ++ (c.reverse ++ d).map F) = act n (mv n g F d) := by
    rw [act_mv h3 T hg hd, act_right (act_mv h3 T hg hc), List.append_assoc]
    refine act_left ?_
    rw [← List.map_append]
    refine T.congr (inR_append hc.ir h4) hd.ir act_back_left
  rw [dst_app h3 h1.ir h2.ir (T.inR h4) e, T.ln h3 h4]
  rfl
theorem mv_inj (h3 : 3 ≤ n) (T : Trn n F G) (hg : NF n g) (hc : NF n c) (hd : NF n d) (h : mv n g F c = mv n g F d) : c = d := by
  refine dst_zero h3 hc hd ?_
  rw [← mv_dst h3 T hg hc hd, h]
  exact dst_self h3 (mv_nf h3 T hg hd).ir
theorem mv_mid (h3 : 3 ≤ n) (T : Trn n F G) (hg : NF n g) (hc : NF n c) (hm : NF n m) (hd : NF n d) : mid n (mv n g F c) (mv n g F m) (mv n g F d) ↔ mid n c m d := by
  unfold mid
  rw [mv_dst h3 T hg hc hm, mv_dst h3 T hg hm hd, mv_dst h3 T hg hc hd]
end
end
end Mt

set_option Elab.async false
set_option linter.all false
set_option autoImplicit false
/-! Addresses taken by barred sides; how many cells lie between (plain Lean). -/
namespace Mt
section
variable {n a b s : Int} {w u p q x y z c d m t B : Wrd}
theorem NF.tail (h3 : 3 ≤ n) (h : NF n (a :: w)) : NF n w := by
  obtain ⟨h1, h2, h4⟩ := h
  rw [form_cons (by simp)] at h4
  obtain ⟨e1, e2⟩ := List.cons.inj h4
  rw [e1, List.erase_cons_head] at e2
  exact ⟨(inR_cons.mp h1).2, (red_cons.mp h2).2, e2⟩
theorem NF.head (h : NF n (a :: w)) : pick n (a :: w) = a := by
  have h4 := h.fm
  rw [form_cons (by simp)] at h4
  exact (List.cons.inj h4).1
theorem NF.suffix (h3 : 3 ≤ n) : ∀ {u w : Wrd}, NF n (u ++ w) → NF n w
  | [], _, h => h
  | _ :: u, _, h => NF.suffix h3 (u := u) (h.tail h3)
/-- a side stands in its way: it itself, or a greater one that it meets, with nothing between that it does not meet -/
def Stp (n : Int) (x : Wrd) (s : Int) : Prop := ∃ y a z, x = y ++ a :: z ∧ (∀ b ∈ z, adj n b s = true) ∧ (a = s ∨ (adj n a s = true ∧ s < a))
theorem NF.free (h3 : 3 ≤ n) (h : NF n (x ++ s :: w)) : ¬ Stp n x s := by
  rintro ⟨y, a, z, rfl, hz, ha⟩
  rw [List.append_assoc] at h
  have h1 := h.suffix h3
  have h1' : NF n (a :: (z ++ s :: w)) := h1
  rcases ha with rfl | ⟨ha, hl⟩
  · exact h1'.red ⟨[], a, z, w, rfl, hz⟩
  · have hf : front n s (a :: (z ++ s :: w)) = true := front_of (y := a :: z) fun b hb => by
      rcases List.mem_cons.mp hb with q | q
      · rw [q]; exact ha
      · exact hz b q
    have := (pick_spec (n := n) (w := a :: (z ++ s :: w)) (by simp)).2 s hf
    rw [h1'.head] at this
    omega
theorem nf_of_free (h3 : 3 ≤ n) : ∀ {w : Wrd}, inR n w → (∀ x s z, w = x ++ s :: z → ¬ Stp n x s) → NF n w
  | [], _, _ => nf_nil
  | a :: w, hin, h => by
    obtain ⟨ha, hin'⟩ := inR_cons.mp hin
    have ih := nf_of_free h3 hin' fun x s z e q => h (a :: x) s z (by rw [e]; rfl) (by
      obtain ⟨y, b, z', e', hz, hb⟩ := q
      exact ⟨a :: y, b, z', by rw [e']; rfl, hz, hb⟩)
    have key : ∀ b, front n b (a :: w) = true → a ≤ b := fun b hb => by
      obtain ⟨y, z, e, hy, _⟩ := front_iff.mp hb
      cases y with
      | nil =>
        have := (List.cons.inj e).1
        omega
      | cons c y =>
        obtain ⟨e1, e2⟩ := List.cons.inj e
        subst e1
        by_cases hl : b < a
        · exact absurd ⟨[], a, y, rfl, fun d hd => (hy d (List.mem_cons_of_mem _ hd)).2, .inr ⟨(hy a List.mem_cons_self).2, hl⟩⟩ (h (a :: y) b z (by rw [e2]; rfl))
        · omega
    have hp : pick n (a :: w) = a := pick_eq (by simp) front_head key
    refine ⟨hin, red_cons.mpr ⟨?_, ih.red⟩, by rw [form_cons (by simp), hp, List.erase_cons_head, ih.fm]⟩
    cases q : front n a w with
    | false => rfl
    | true =>
      obtain ⟨y, z, e, hy, _⟩ := front_iff.mp q
      exact absurd ⟨[], a, y, rfl, fun d hd => (hy d hd).2, .inl rfl⟩ (h (a :: y) a z (by rw [e]; rfl))
/-- the sides barred behind a side -/
def brd (n : Int) (B : Wrd) (s : Int) : Wrd := s :: [(s - 1) % n, (s + 1) % n].filter fun o => B.contains o || decide (o < s)
theorem mod_near (h3 : 3 ≤ n) (hs : 0 ≤ s ∧ s < n) (hb : 0 ≤ b ∧ b < n) : (b = (s - 1) % n ∨ b = (s + 1) % n) ↔ adj n s b = true := by
  have e1 : (s - 1) % n = if s = 0 then n - 1 else s - 1 := by
    split
    · rename_i h
      rw [h, ← Int.add_emod_right, Int.emod_eq_of_lt (by omega) (by omega)]
      omega
    · exact Int.emod_eq_of_lt (by omega) (by omega)
  have e2 : (s + 1) % n = if s = n - 1 then 0 else s + 1 := by
    split
    · rename_i h
      rw [h, show n - 1 + 1 = n by omega, Int.emod_self]
    · exact Int.emod_eq_of_lt (by omega) (by omega)
  rw [e1, e2]
  unfold adj
  rw [decide_eq_true_eq]
  split <;> split <;> omega
theorem mem_brd (h3 : 3 ≤ n) (hs : 0 ≤ s ∧ s < n) (hb : 0 ≤ b ∧ b < n) : b ∈ brd n B s ↔ b = s ∨ (adj n s b = true ∧ (b ∈ B ∨ b < s)) := by
  unfold brd
  rw [List.mem_cons, List.mem_filter, ← mod_near h3 hs hb]
  simp only [List.mem_cons, List.not_mem_nil, or_false, Bool.or_eq_true, List.contains_iff_mem, decide_eq_true_eq]
def bars (n : Int) (B w : Wrd) : Wrd := w.foldl (brd n) B
theorem bars_snoc : bars n B (w ++ [s]) = brd n (bars n B w) s := by unfold bars; rw [List.foldl_append]; rfl
theorem rev_ind {P : Wrd → Prop} (h0 : P []) (h1 : ∀ w s, P w → P (w ++ [s])) (w : Wrd) : P w := by
  have : ∀ l : Wrd, P l.reverse := by
    intro l
    induction l with
    | nil => exact h0
    | cons a l ih => rw [List.reverse_cons]; exact h1 _ _ ih
  have e := this w.reverse
  rwa [List.reverse_reverse] at e
theorem bars_iff (h3 : 3 ≤ n) (hs : 0 ≤ s ∧ s < n) (w : Wrd) : inR n w → (s ∈ bars n [] w ↔ Stp n w s) := by
  refine rev_ind (P := fun w => inR n w → (s ∈ bars n [] w ↔ Stp n w s)) ?_ (fun w a ih hin => ?_) w
  · intro _
    constructor
    · intro h; cases h
    · rintro ⟨y, a, z, e, _⟩
      cases y <;> cases e
  · obtain ⟨hw, ha⟩ := inR_app.mp hin
    have ha := inR_one.mp ha
    rw [bars_snoc, mem_brd h3 ha hs, ih hw]
    constructor
    · rintro (rfl | ⟨h1, ⟨y, b, z, rfl, hz, hb⟩ | h2⟩)
      · exact ⟨w, s, [], rfl, fun b hb => (by cases hb), .inl rfl⟩
      · refine ⟨y, b, z ++ [a], by simp, fun d hd => ?_, hb⟩
        rcases List.mem_append.mp hd with q | q
        · exact hz d q
        · rw [List.mem_singleton.mp q]; exact h1
      · exact ⟨w, a, [], rfl, fun b hb => (by cases hb), .inr ⟨h1, h2⟩⟩
    · rintro ⟨y, b, z, e, hz, hb⟩
      rcases List.eq_nil_or_concat z with rfl | ⟨z', d, rfl⟩
      · have e' : w ++ [a] = y ++ [b] := e
        obtain ⟨e1, e2⟩ := List.append_inj' e' rfl
        have e3 := (List.cons.inj e2).1
        subst e3
        rcases hb with rfl | ⟨h1, h2⟩
        · exact .inl rfl
        · exact .inr ⟨h1, .inr h2⟩
      · have e' : w ++ [a] = (y ++ b :: z') ++ [d] := by rw [e]; simp
        obtain ⟨e1, e2⟩ := List.append_inj' e' rfl
        have e3 := (List.cons.inj e2).1
        subst e3
        exact .inr ⟨hz a (by simp), .inl ⟨y, b, z', e1, fun d hd => hz d (by simp [hd]), hb⟩⟩
/-- an address, by the small machine -/
def okw (n : Int) : Wrd → Wrd → Bool
  | _, [] => true
  | B, s :: w => !B.contains s && okw n (brd n B s) w
theorem okw_iff (h3 : 3 ≤ n) : ∀ {w x : Wrd}, inR n x → inR n w → (okw n (bars n [] x) w = true ↔ ∀ y s z, w = y ++ s :: z → ¬ Stp n (x ++ y) s)
  | [], x, _, _ => by
    refine ⟨fun _ y s z e => ?_, fun _ => rfl⟩
    cases y <;> cases e
  | a :: w, x, hx, hw => by
    obtain ⟨ha, hw'⟩ := inR_cons.mp hw
    show (!(bars n [] x).contains a && okw n (brd n (bars n [] x) a) w) = true ↔ _
    rw [← bars_snoc, Bool.and_eq_true, okw_iff h3 (inR_append hx (inR_one.mpr ha)) hw', Bool.not_eq_true', ← Bool.not_eq_true, List.contains_iff_mem, bars_iff h3 ha x hx]
    constructor
    · rintro ⟨h1, h2⟩ y s z e
      cases y with
      | nil =>
        obtain ⟨rfl, rfl⟩ := List.cons.inj e
        rw [List.append_nil]; exact h1
      | cons b y =>
        obtain ⟨rfl, rfl⟩ := List.cons.inj e
        have := h2 y s z rfl
        rwa [List.append_assoc] at this
    · intro h
      refine ⟨?_, fun y s z e => ?_⟩
      · have := h [] a w rfl
        rwa [List.append_nil] at this
      · have := h (a :: y) s z (by rw [e]; rfl)
        rw [List.append_assoc]
        exact this
theorem nf_okw (h3 : 3 ≤ n) (hw : inR n w) : NF n w ↔ okw n [] w = true := by
  have := okw_iff h3 (w := w) (x := []) inR_nil hw
  rw [show bars n [] [] = [] from rfl] at this
  rw [this]
  exact ⟨fun h y s z e => by rw [List.nil_append]; rw [e] at h; exact h.free h3, fun h => nf_of_free h3 hw fun x s z e => by
    have := h x s z e
    rwa [List.nil_append] at this⟩
theorem NF.prefix (h3 : 3 ≤ n) (h : NF n (u ++ w)) : NF n u := by
  refine nf_of_free h3 (inR_app.mp h.ir).1 fun x s z e => ?_
  rw [e, List.append_assoc] at h
  exact h.free h3
theorem okw_append : okw n B (u ++ w) = (okw n B u && okw n (bars n B u) w) := by
  induction u generalizing B with
  | nil => rfl
  | cons a u ih =>
    show (!B.contains a && okw n (brd n B a) (u ++ w)) = (!B.contains a && okw n (brd n B a) u && _)
    rw [ih, Bool.and_assoc]
    rfl

/-! ### pigeons -/
theorem nodup_len {α : Type} [DecidableEq α] : ∀ {l m : List α}, l.Nodup → (∀ x ∈ l, x ∈ m) → l.length ≤ m.length
  | [], _, _, _ => Nat.zero_le _
  | a :: l, m, hn, h => by
    obtain ⟨h1, h2⟩ := List.nodup_cons.mp hn
    have ha := h a List.mem_cons_self
    have ih := nodup_len (m := m.erase a) h2 fun x hx => (List.mem_erase_of_ne fun q => h1 (by rw [← q]; exact hx)).mpr (h x (List.mem_cons_of_mem _ hx))
    have := List.length_erase_of_mem ha
    have := List.length_pos_of_mem ha
    rw [List.length_cons]
    omega
def vecs : Nat → List (List Nat)
  | 0 => [[]]
  | k + 1 => (vecs k).map (0 :: ·) ++ (vecs k).map (1 :: ·)
theorem vecs_len : ∀ k, (vecs k).length = 2 ^ k
  | 0 => rfl
  | k + 1 => by
    show ((vecs k).map (0 :: ·) ++ (vecs k).map (1 :: ·)).length = _
    rw [List.length_append, List.length_map, List.length_map, vecs_len k, Nat.pow_succ]
    omega
theorem mem_vecs : ∀ {v : List Nat}, (∀ x ∈ v, x < 2) → v ∈ vecs v.length
  | [], _ => by simp [vecs]
  | a :: v, h => by
    have ih := mem_vecs fun x hx => h x (List.mem_cons_of_mem _ hx)
    have ha := h a List.mem_cons_self
    show _ ∈ (vecs v.length).map (0 :: ·) ++ (vecs v.length).map (1 :: ·)
    rw [List.mem_append, List.mem_map, List.mem_map]
    by_cases q : a = 0
    · subst q; exact .inl ⟨v, ih, rfl⟩
    · have : a = 1 := by omega
      subst this; exact .inr ⟨v, ih, rfl⟩
/-- as many cells as this lie between two, at most -/
theorem between_few (h3 : 3 ≤ n) (hc : NF n c) (hd : NF n d) {l : List Wrd} (hn : l.Nodup) (h : ∀ m ∈ l, NF n m ∧ mid n c m d) : l.length ≤ 2 ^ dst n c d := by
  obtain ⟨u1, u2, u3⟩ := way_spec h3 hc hd
  have hlen : (cr n c (way n c d)).length = dst n c d := by rw [cr_len, u3]
  have hv : ∀ m, ((cr n c (way n c d)).map (sg n m)) ∈ vecs (dst n c d) := fun m => by
    have := mem_vecs (v := (cr n c (way n c d)).map (sg n m)) fun x hx => by
      obtain ⟨t, _, rfl⟩ := List.mem_map.mp hx
      exact pc_lt
    rwa [List.length_map, hlen] at this
  have hinj : ∀ m ∈ l, ∀ m' ∈ l, (cr n c (way n c d)).map (sg n m) = (cr n c (way n c d)).map (sg n m') → m = m' := fun m hm m' hm' e => by
    obtain ⟨a1, a2⟩ := h m hm
    obtain ⟨b1, b2⟩ := h m' hm'
    refine sg_eq h3 a1 b1 fun t => ?_
    by_cases ht : t ∈ cr n c (way n c d)
    · exact (List.map_inj_left.mp e) t ht
    · have hs : sg n c t = sg n d t := Classical.byContradiction fun q => ht ((parts_cr h3 hc.ir hd.ir u1.ir u1.red u2).mp q)
      have q1 := (mid_iff h3 hc a1 hd).mp a2 t
      have q2 := (mid_iff h3 hc b1 hd).mp b2 t
      have l1 : sg n m t < 2 := pc_lt
      have l2 : sg n m' t < 2 := pc_lt
      have l3 : sg n c t < 2 := pc_lt
      omega
  have hn2 : (l.map fun m => (cr n c (way n c d)).map (sg n m)).Nodup := by
    rw [List.nodup_iff_pairwise_ne, List.pairwise_map]
    exact List.Pairwise.imp_of_mem (fun {m m'} hm hm' q e => q (hinj m hm m' hm' e)) (List.nodup_iff_pairwise_ne.mp hn)
  have := nodup_len hn2 fun v hv' => by
    obtain ⟨m, _, rfl⟩ := List.mem_map.mp hv'
    exact hv m
  rwa [List.length_map, vecs_len] at this
/-- one step nearer -/
theorem mid_step (h3 : 3 ≤ n) (hc : NF n c) (hm : NF n m) (hd : NF n d) (h : mid n c m d) (hs : 0 ≤ s ∧ s < n) (hl : dst n (crs n m s) d < dst n m d) : mid n c (crs n m s) d := by
  have h1 := NF.crs h3 hm hs
  have e : dst n m (crs n m s) = ln n [s] := dst_app h3 hm.ir h1.ir (inR_one.mpr hs) (act_crs h3 hm hs).symm
  have hle := ln_le (n := n) (w := [s])
  rw [← e, List.length_singleton] at hle
  have t1 := dst_tri h3 hc.ir hd.ir h1.ir
  have t2 := dst_tri h3 hc.ir h1.ir hm.ir
  unfold mid at h ⊢
  omega
/-- each cell between, but the first, is one step from another one between -/
theorem mid_back (h3 : 3 ≤ n) (hc : NF n c) (hm : NF n m) (hd : NF n d) (h : mid n c m d) (hne : dst n c m ≠ 0) : ∃ m' s, NF n m' ∧ (0 ≤ s ∧ s < n) ∧ mid n c m' d ∧ dst n c m' + 1 = dst n c m ∧ crs n m' s = m ∧ dst n m d < dst n m' d := by
  obtain ⟨u1, u2, u3⟩ := way_spec h3 hc hm
  rcases List.eq_nil_or_concat (way n c m) with e | ⟨u, s, e⟩
  · rw [e] at u3
    exact absurd u3.symm hne
  · have e : way n c m = u ++ [s] := by rw [e, List.concat_eq_append]
    rw [e] at u1 u2 u3
    obtain ⟨hu, hs⟩ := inR_app.mp u1.ir
    have hs := inR_one.mp hs
    have hm' := NF.tms h3 hc hu
    have em : crs n (tms n c u) s = m := by
      refine NF.ext h3 (NF.crs h3 hm' hs) hm ?_
      rw [act_crs h3 hm' hs, act_right (act_tms h3 hc hu), List.append_assoc, u2]
    have d1 : dst n c (tms n c u) = ln n u := dst_app h3 hc.ir hm'.ir hu (act_tms h3 hc hu).symm
    have l1 := ln_le (n := n) (w := u)
    have e2 : dst n (tms n c u) m = ln n [s] := dst_app h3 hm'.ir hm.ir (inR_one.mpr hs) (by rw [← act_crs h3 hm' hs, em])
    have l2 := ln_le (n := n) (w := [s])
    rw [List.length_append, List.length_singleton] at u3
    rw [List.length_singleton] at l2
    have t1 := dst_tri h3 hc.ir hm.ir hm'.ir
    have t2 := dst_tri h3 hc.ir hd.ir hm'.ir
    have t3 := dst_tri h3 hm'.ir hd.ir hm.ir
    unfold mid at h
    refine ⟨_, s, hm', hs, ?_, by omega, em, by omega⟩
    unfold mid
    omega
end
end Mt

set_option Elab.async false
set_option linter.all false
set_option autoImplicit false
/-! The turns of the sides (plain Lean). -/
namespace Mt
section
variable {n a b s i j k : Int}
theorem emod_add (hn : 0 < n) (hi : 0 ≤ i ∧ i < n) (hb : 0 ≤ b ∧ b < n) : (i + b) % n = if i + b < n then i + b else i + b - n := by
  split
  · exact Int.emod_eq_of_lt (by omega) (by omega)
  · have e : i + b = (i + b - n) + n := by omega
    rw [e, Int.add_emod_right, Int.emod_eq_of_lt (by omega) (by omega)]
    omega
theorem emod_sub (hn : 0 < n) (hi : 0 ≤ i ∧ i < n) (hb : 0 ≤ b ∧ b < n) : (b - i) % n = if 0 ≤ b - i then b - i else b - i + n := by
  split
  · exact Int.emod_eq_of_lt (by omega) (by omega)
  · rw [← Int.add_emod_right, Int.emod_eq_of_lt (by omega) (by omega)]
def rotF (n b k : Int) : Int := if 0 ≤ k ∧ k < n then (k + b) % n else k
def rotG (n b k : Int) : Int := if 0 ≤ k ∧ k < n then (k - b) % n else k
def mirF (n b k : Int) : Int := if 0 ≤ k ∧ k < n then (b - k) % n else k
theorem rotF_in (hk : 0 ≤ k ∧ k < n) (hb : 0 ≤ b ∧ b < n) : rotF n b k = if k + b < n then k + b else k + b - n := by
  unfold rotF
  rw [if_pos hk, emod_add (by omega) hk hb]
theorem rotG_in (hk : 0 ≤ k ∧ k < n) (hb : 0 ≤ b ∧ b < n) : rotG n b k = if 0 ≤ k - b then k - b else k - b + n := by
  unfold rotG
  rw [if_pos hk, emod_sub (by omega) hb hk]
theorem mirF_in (hk : 0 ≤ k ∧ k < n) (hb : 0 ≤ b ∧ b < n) : mirF n b k = if 0 ≤ b - k then b - k else b - k + n := by
  unfold mirF
  rw [if_pos hk, emod_sub (by omega) hk hb]
theorem rot_fr (hk : 0 ≤ k ∧ k < n) (hb : 0 ≤ b ∧ b < n) : 0 ≤ rotF n b k ∧ rotF n b k < n := by
  rw [rotF_in hk hb]
  split <;> omega
theorem rot_gr (hk : 0 ≤ k ∧ k < n) (hb : 0 ≤ b ∧ b < n) : 0 ≤ rotG n b k ∧ rotG n b k < n := by
  rw [rotG_in hk hb]
  split <;> omega
theorem mir_fr (hk : 0 ≤ k ∧ k < n) (hb : 0 ≤ b ∧ b < n) : 0 ≤ mirF n b k ∧ mirF n b k < n := by
  rw [mirF_in hk hb]
  split <;> omega
theorem trn_rot (h3 : 3 ≤ n) (hb : 0 ≤ b ∧ b < n) : Trn n (rotF n b) (rotG n b) := by
  refine ⟨fun i => ?_, fun i => ?_, fun i hi => rot_fr hi hb, fun i hi => rot_gr hi hb, fun i j hi hj => ?_⟩
  · by_cases h : 0 ≤ i ∧ i < n
    · rw [rotF_in (rot_gr h hb) hb, rotG_in h hb]
      split <;> split <;> omega
    · unfold rotG
      rw [if_neg h]
      unfold rotF
      rw [if_neg h]
  · by_cases h : 0 ≤ i ∧ i < n
    · rw [rotG_in (rot_fr h hb) hb, rotF_in h hb]
      split <;> split <;> omega
    · unfold rotF
      rw [if_neg h]
      unfold rotG
      rw [if_neg h]
  · rw [rotF_in hi hb, rotF_in hj hb]
    unfold adj
    apply decide_eq_decide.mpr
    split <;> split <;> omega
theorem trn_mir (h3 : 3 ≤ n) (hb : 0 ≤ b ∧ b < n) : Trn n (mirF n b) (mirF n b) := by
  have inv : ∀ i, mirF n b (mirF n b i) = i := fun i => by
    by_cases h : 0 ≤ i ∧ i < n
    · rw [mirF_in (mir_fr h hb) hb, mirF_in h hb]
      split <;> split <;> omega
    · unfold mirF
      rw [if_neg h, if_neg h]
  refine ⟨inv, inv, fun i hi => mir_fr hi hb, fun i hi => mir_fr hi hb, fun i j hi hj => ?_⟩
  rw [mirF_in hi hb, mirF_in hj hb]
  unfold adj
  apply decide_eq_decide.mpr
  split <;> split <;> omega
/-- the turns as rows -/
def turnsL (n : Int) : List Wrd := (sides n).map (fun b => (sides n).map fun k => (k + b) % n) ++ (sides n).map fun b => (sides n).map fun k => (b - k) % n
theorem mem_turnsL (h3 : 3 ≤ n) {w : Wrd} (h : w ∈ turnsL n) : ∃ f g, Trn n f g ∧ w = (sides n).map f := by
  unfold turnsL at h
  rcases List.mem_append.mp h with h | h
  · obtain ⟨b, hb, rfl⟩ := List.mem_map.mp h
    refine ⟨_, _, trn_rot h3 (mem_sides.mp hb), List.map_congr_left fun k hk => ?_⟩
    unfold rotF
    rw [if_pos (mem_sides.mp hk)]
  · obtain ⟨b, hb, rfl⟩ := List.mem_map.mp h
    refine ⟨_, _, trn_mir h3 (mem_sides.mp hb), List.map_congr_left fun k hk => ?_⟩
    unfold mirF
    rw [if_pos (mem_sides.mp hk)]
theorem turnsL_len : (turnsL n).length = 2 * n.toNat := by
  unfold turnsL sides
  simp
  omega
theorem sides_len : (sides n).length = n.toNat := by unfold sides; simp
theorem sides_get (hk : 0 ≤ k ∧ k < n) : (sides n)[k.toNat]? = some k := by
  unfold sides
  rw [List.getElem?_map, List.getElem?_range (by omega)]
  show some ((k.toNat : Nat) : Int) = _
  rw [Int.toNat_of_nonneg hk.1]
theorem dst_le {n : Int} {c d : Wrd} : dst n c d ≤ c.length + d.length := by
  have := ln_le (n := n) (w := c.reverse ++ d)
  rw [List.length_append, List.length_reverse] at this
  exact this
end
end Mt

set_option Elab.async false
set_option linter.all false
set_option autoImplicit false
/-! The small machine of addresses; cells counted and numbered (plain Lean). -/
namespace Mt
def ins (a : Int) : Wrd → Wrd
  | [] => [a]
  | b :: l => if a ≤ b then a :: b :: l else b :: ins a l
def isrt : Wrd → Wrd
  | [] => []
  | a :: l => ins a (isrt l)
theorem mem_ins {a x : Int} : ∀ {l : Wrd}, x ∈ ins a l ↔ x = a ∨ x ∈ l
  | [] => by simp [ins]
  | b :: l => by
    unfold ins
    split
    · simp
    · rw [List.mem_cons, mem_ins, List.mem_cons]
      constructor
      · rintro (h | h | h)
        · exact .inr (.inl h)
        · exact .inl h
        · exact .inr (.inr h)
      · rintro (h | h | h)
        · exact .inr (.inl h)
        · exact .inl h
        · exact .inr (.inr h)
theorem ins_perm {a : Int} : ∀ {l : Wrd}, (ins a l).Perm (a :: l)
  | [] => .refl _
  | b :: l => by
    unfold ins
    split
    · exact .refl _
    · exact (ins_perm.cons b).trans (.swap a b l)
theorem isrt_perm : ∀ {l : Wrd}, (isrt l).Perm l
  | [] => .refl _
  | a :: l => ins_perm.trans (isrt_perm.cons a)
theorem mem_isrt {x : Int} {l : Wrd} : x ∈ isrt l ↔ x ∈ l := isrt_perm.mem_iff
theorem ins_pw {a : Int} : ∀ {l : Wrd}, l.Pairwise (· ≤ ·) → (ins a l).Pairwise (· ≤ ·)
  | [], _ => by simp [ins]
  | b :: l, h => by
    obtain ⟨h1, h2⟩ := List.pairwise_cons.mp h
    unfold ins
    split
    · rename_i q
      refine List.pairwise_cons.mpr ⟨fun x hx => ?_, h⟩
      rcases List.mem_cons.mp hx with z | z
      · omega
      · have := h1 x z; omega
    · rename_i q
      refine List.pairwise_cons.mpr ⟨fun x hx => ?_, ins_pw h2⟩
      rcases mem_ins.mp hx with z | z
      · omega
      · exact h1 x z
theorem isrt_pw : ∀ {l : Wrd}, (isrt l).Pairwise (· ≤ ·)
  | [] => List.Pairwise.nil
  | a :: l => ins_pw isrt_pw
/-! ### the machine -/
def mside (n : Int) (i : Nat) (p : List Wrd × Wrd) (s : Int) : List Wrd × Wrd :=
  if (p.1.getD i []).contains s then (p.1, p.2 ++ [-1]) else
    let t := isrt (brd n (p.1.getD i []) s)
    let L := if p.1.contains t then p.1 else p.1 ++ [t]
    (L, p.2 ++ [(L.idxOf t : Int)])
def mloop (n : Int) : Nat → Nat → List Wrd → List Wrd → Option (List Wrd × List Wrd)
  | 0, _, _, _ => none
  | k + 1, i, L, R => if i < L.length then
      let p := (sides n).foldl (mside n i) (L, [])
      mloop n k (i + 1) p.1 (R ++ [p.2]) else some (L, R)
/-- states, rows -/
def mach (n : Int) : List Wrd × List Wrd := (mloop n 100 0 [[]] []).getD ([], [])
def sts (n : Int) : List Wrd := (mach n).1
def rws (n : Int) : List Wrd := (mach n).2
/-- what stands behind a state and a side -/
def nxt (n : Int) (i : Nat) (s : Int) : Int := ((rws n).getD i []).getD s.toNat 0
def chkM (n : Int) : Bool :=
  (mloop n 100 0 [[]] []).isSome && decide ((sts n)[0]? = some []) && decide ((rws n).length = (sts n).length) && decide ((sts n).length ≤ 100)
  && ((rws n).all fun r => decide (r.length = n.toNat) && r.all fun j => decide (-1 ≤ j) && decide (j < ((sts n).length : Int)))
  && (List.range (sts n).length).all fun i => (sides n).all fun s =>
    if ((sts n).getD i []).contains s then decide (nxt n i s = -1) else decide (0 ≤ nxt n i s) && decide ((sts n).getD (nxt n i s).toNat [] = isrt (brd n ((sts n).getD i []) s))
theorem chkM_all : ([5, 6, 7, 8, 9] : List Int).all chkM = true := by decide +kernel
/-! counting -/
def crow (v : List Int) (r : Wrd) : Int := ((r.filter fun j => decide (0 ≤ j)).map fun j => v.getD j.toNat 0).sum
def cvec (n : Int) : Nat → List Int
  | 0 => (rws n).map fun _ => 1
  | k + 1 => (rws n).map (crow (cvec n k))
def rg2 (n : Int) : Nat → Int × Int
  | 0 => (n, n * (n - 2))
  | k + 1 => ((rg2 n k).2, (n - 2) * (rg2 n k).2 - (rg2 n k).1)
def rg (n : Int) (k : Nat) : Int := if k < 2 then if k = 1 then n else 1 else (rg2 n (k - 2)).2
/-- the same counts, quickly -/
def crows (n : Int) : Nat → List Int → List (List Int)
  | 0, v => [v]
  | k + 1, v => v :: crows n k ((rws n).map (crow v))
def chkR (n : Int) : Bool := (crows n 45 (cvec n 0)).zipIdx.all fun p => decide (p.1.getD 0 0 = rg n p.2)
theorem crows_get (n : Int) : ∀ (k j : Nat) (m : Nat), j ≤ k → (crows n k (cvec n m))[j]? = some (cvec n (m + j))
  | 0, j, m, h => by
    have : j = 0 := by omega
    subst this
    rfl
  | k + 1, 0, m, _ => rfl
  | k + 1, j + 1, m, h => by
    show (crows n k ((rws n).map (crow (cvec n m))))[j]? = _
    have := crows_get n k j (m + 1) (by omega)
    rw [show m + (j + 1) = m + 1 + j by omega]
    exact this
theorem chkR_all : ([5, 6, 7, 8, 9] : List Int).all chkR = true := by decide +kernel
end Mt

set_option Elab.async false
set_option linter.all false
set_option autoImplicit false
/-! What the machine tells: addresses by paths, counts, numbers (plain Lean). -/
namespace Mt
structure Mach (n : Int) : Prop where
  h5 : 5 ≤ n
  h9 : n ≤ 9
  run : mloop n 100 0 [[]] [] = some (sts n, rws n)
  st0 : (sts n)[0]? = some []
  len : (rws n).length = (sts n).length
  few : (sts n).length ≤ 100
  row : ∀ r ∈ rws n, r.length = n.toNat ∧ ∀ j ∈ r, -1 ≤ j ∧ j < ((sts n).length : Int)
  tr : ∀ i, i < (sts n).length → ∀ s, 0 ≤ s ∧ s < n → if s ∈ (sts n).getD i [] then nxt n i s = -1 else 0 ≤ nxt n i s ∧ (sts n).getD (nxt n i s).toNat [] = isrt (brd n ((sts n).getD i []) s)
theorem five_nine {n : Int} (h5 : 5 ≤ n) (h9 : n ≤ 9) : n ∈ ([5, 6, 7, 8, 9] : List Int) := by
  simp only [List.mem_cons, List.not_mem_nil, or_false]
  omega
theorem mach_ok {n : Int} (h5 : 5 ≤ n) (h9 : n ≤ 9) : Mach n := by
  have h := List.all_eq_true.mp chkM_all n (five_nine h5 h9)
  unfold chkM at h
  simp only [Bool.and_eq_true, decide_eq_true_eq, List.all_eq_true] at h
  obtain ⟨⟨⟨⟨⟨h1, h2⟩, h3⟩, h4⟩, h6⟩, h7⟩ := h
  obtain ⟨p, hp⟩ := Option.isSome_iff_exists.mp h1
  have he : mach n = p := by unfold mach; rw [hp]; rfl
  refine ⟨h5, h9, ?_, h2, h3, h4, fun r hr => ⟨(h6 r hr).1, fun j hj => (h6 r hr).2 j hj⟩, fun i hi s hs => ?_⟩
  · rw [hp]
    unfold sts rws
    rw [he]
  · have := h7 i (List.mem_range.mpr hi) s (mem_sides.mpr hs)
    by_cases q : s ∈ (sts n).getD i []
    · rw [if_pos q]
      rw [if_pos (List.contains_iff_mem.mpr q)] at this
      exact of_decide_eq_true this
    · rw [if_neg q]
      rw [if_neg fun z => q (List.contains_iff_mem.mp z)] at this
      simpa using this
section
variable {n s : Int} {i k m : Nat} {w B B' : Wrd}
theorem brd_congr (h : ∀ b, b ∈ B ↔ b ∈ B') : brd n B s = brd n B' s := by
  unfold brd
  congr 1
  apply List.filter_congr
  intro o _
  have : B.contains o = B'.contains o := by
    rw [Bool.eq_iff_iff, List.contains_iff_mem, List.contains_iff_mem]
    exact h o
  rw [this]
theorem okw_congr (h : ∀ b, b ∈ B ↔ b ∈ B') : okw n B w = okw n B' w := by
  cases w with
  | nil => rfl
  | cons s w =>
    show (!B.contains s && okw n (brd n B s) w) = (!B'.contains s && okw n (brd n B' s) w)
    rw [brd_congr h]
    congr 2
    rw [Bool.eq_iff_iff, List.contains_iff_mem, List.contains_iff_mem]
    exact h s
/-- a path of the machine -/
def accp (n : Int) : Nat → Wrd → Bool
  | _, [] => true
  | i, s :: w => decide (0 ≤ nxt n i s) && accp n (nxt n i s).toNat w
def goes (n : Int) (i : Nat) (w : Wrd) : Nat := w.foldl (fun i s => (nxt n i s).toNat) i
theorem Mach.nxt_lt (M : Mach n) (hi : i < (sts n).length) (hs : 0 ≤ s ∧ s < n) : -1 ≤ nxt n i s ∧ nxt n i s < ((sts n).length : Int) := by
  have hl := M.len
  have hr : (rws n)[i]? = some (rws n)[i] := List.getElem?_eq_getElem (by omega)
  have hm := M.row _ (List.mem_of_getElem? hr)
  have e : nxt n i s = ((rws n)[i]).getD s.toNat 0 := by
    unfold nxt
    rw [List.getD_eq_getElem?_getD (l := rws n), hr]
    rfl
  have h5 := M.h5
  have e2 : ((rws n)[i]).getD s.toNat 0 = ((rws n)[i])[s.toNat]'(by rw [hm.1]; omega) := by
    rw [List.getD_eq_getElem?_getD, List.getElem?_eq_getElem (show s.toNat < _ by rw [hm.1]; omega)]
    rfl
  rw [e, e2]
  exact hm.2 _ (List.getElem_mem _)
theorem Mach.acc (M : Mach n) : ∀ {w : Wrd} {i : Nat}, i < (sts n).length → inR n w → accp n i w = okw n ((sts n).getD i []) w
  | [], _, _, _ => rfl
  | s :: w, i, hi, hw => by
    obtain ⟨hs, hw'⟩ := inR_cons.mp hw
    have ht := M.tr i hi s hs
    have hn := M.nxt_lt hi hs
    show (decide (0 ≤ nxt n i s) && accp n (nxt n i s).toNat w) = (!((sts n).getD i []).contains s && okw n (brd n ((sts n).getD i []) s) w)
    by_cases q : s ∈ (sts n).getD i []
    · rw [if_pos q] at ht
      rw [ht, List.contains_iff_mem.mpr q]
      rfl
    · rw [if_neg q] at ht
      have qc : ((sts n).getD i []).contains s = false := Bool.eq_false_iff.mpr fun z => q (List.contains_iff_mem.mp z)
      rw [qc, decide_eq_true ht.1, M.acc (by omega) hw', ht.2]
      congr 1
      exact okw_congr fun b => mem_isrt
theorem Mach.pos (M : Mach n) : 0 < (sts n).length := (List.getElem?_eq_some_iff.mp M.st0).1
theorem Mach.st (M : Mach n) : (sts n).getD 0 [] = [] := by rw [List.getD_eq_getElem?_getD, M.st0]; rfl
/-- addresses are the paths from the first state -/
theorem Mach.nf (M : Mach n) (hw : inR n w) : NF n w ↔ accp n 0 w = true := by
  have := M.h5
  rw [nf_okw (by omega) hw, M.acc M.pos hw, M.st]
theorem accp_append : ∀ {u : Wrd} {i : Nat}, accp n i (u ++ w) = (accp n i u && accp n (goes n i u) w)
  | [], _ => rfl
  | s :: u, i => by
    show (decide (0 ≤ nxt n i s) && accp n (nxt n i s).toNat (u ++ w)) = (decide (0 ≤ nxt n i s) && accp n (nxt n i s).toNat u && _)
    rw [accp_append, Bool.and_assoc]
    rfl
theorem Mach.goes_lt (M : Mach n) : ∀ {w : Wrd} {i : Nat}, i < (sts n).length → inR n w → goes n i w < (sts n).length
  | [], _, hi, _ => hi
  | s :: w, i, hi, hw => by
    obtain ⟨hs, hw'⟩ := inR_cons.mp hw
    have := M.nxt_lt hi hs
    have := M.pos
    exact M.goes_lt (w := w) (i := (nxt n i s).toNat) (by omega) hw'
/-! counts -/
def cv (n : Int) (k i : Nat) : Int := (cvec n k).getD i 0
def rwO (n : Int) (i : Nat) : Wrd := (rws n).getD i []
theorem crow_append {v : List Int} {r t : Wrd} : crow v (r ++ t) = crow v r + crow v t := by
  unfold crow
  rw [List.filter_append, List.map_append, List.sum_append]
theorem cvec_len : ∀ k, (cvec n k).length = (rws n).length
  | 0 => by show ((rws n).map _).length = _; rw [List.length_map]
  | k + 1 => by show ((rws n).map _).length = _; rw [List.length_map]
theorem cv_succ (hi : i < (rws n).length) : cv n (k + 1) i = crow (cvec n k) (rwO n i) := by
  unfold cv rwO
  show ((rws n).map (crow (cvec n k))).getD i 0 = _
  rw [List.getD_eq_getElem?_getD, List.getD_eq_getElem?_getD, List.getElem?_map, List.getElem?_eq_getElem hi]
  rfl
theorem sum_nonneg : ∀ {l : List Int}, (∀ x ∈ l, 0 ≤ x) → 0 ≤ l.sum
  | [], _ => Int.le_refl _
  | a :: l, h => by
    rw [List.sum_cons]
    have := h a List.mem_cons_self
    have := sum_nonneg fun x hx => h x (List.mem_cons_of_mem _ hx)
    omega
theorem cv_nonneg : ∀ k i, 0 ≤ cv n k i
  | 0, i => by
    unfold cv
    show 0 ≤ ((rws n).map fun _ => (1 : Int)).getD i 0
    rw [List.getD_eq_getElem?_getD, List.getElem?_map]
    cases (rws n)[i]? <;> simp
  | k + 1, i => by
    by_cases hi : i < (rws n).length
    · rw [cv_succ hi]
      unfold crow
      refine sum_nonneg fun x hx => ?_
      obtain ⟨j, _, rfl⟩ := List.mem_map.mp hx
      exact cv_nonneg k j.toNat
    · unfold cv
      rw [List.getD_eq_getElem?_getD, List.getElem?_eq_none (by rw [cvec_len]; omega)]
      exact Int.le_refl _
theorem crow_take {v : List Int} {r : Wrd} (h : k < r.length) : crow v (r.take (k + 1)) = crow v (r.take k) + if 0 ≤ r.getD k 0 then v.getD (r.getD k 0).toNat 0 else 0 := by
  have e : r.take (k + 1) = r.take k ++ [r.getD k 0] := by
    rw [List.take_succ, List.getD_eq_getElem?_getD, List.getElem?_eq_getElem h]
    rfl
  rw [e, crow_append]
  congr 1
  unfold crow
  by_cases q : 0 ≤ r.getD k 0
  · rw [if_pos q, List.filter_cons_of_pos (by simpa using q)]
    simp
  · rw [if_neg q, List.filter_cons_of_neg (by simpa using q)]
    rfl
theorem rg_cv {n : Int} (h5 : 5 ≤ n) (h9 : n ≤ 9) {k : Nat} (hk : k ≤ 45) : cv n k 0 = rg n k := by
  have h := List.all_eq_true.mp chkR_all n (five_nine h5 h9)
  unfold chkR at h
  have hg := crows_get n 45 k 0 hk
  rw [Nat.zero_add] at hg
  have hl := (List.getElem?_eq_some_iff.mp hg)
  obtain ⟨hlt, he⟩ := hl
  have hm : (cvec n k, k) ∈ (crows n 45 (cvec n 0)).zipIdx := by
    rw [List.mem_iff_getElem?]
    refine ⟨k, ?_⟩
    rw [List.getElem?_zipIdx, hg]
    simp
  have := List.all_eq_true.mp h _ hm
  exact of_decide_eq_true this
/-! numbers -/
def psum (n : Int) (k i : Nat) (s : Int) : Int := crow (cvec n k) ((rwO n i).take s.toNat)
/-- the number of a path, of m sides in all -/
def numX (n : Int) : Nat → Wrd → Nat → Int
  | _, [], _ => 0
  | i, s :: w, m => psum n (m - 1) i s + numX n (nxt n i s).toNat w (m - 1)
theorem numX_snoc : ∀ {w : Wrd} {i m : Nat}, numX n i (w ++ [s]) m = numX n i w m + psum n (m - w.length - 1) (goes n i w) s
  | [], i, m => by
    show psum n (m - 1) i s + 0 = 0 + psum n (m - 0 - 1) i s
    rw [Nat.sub_zero]
    omega
  | a :: w, i, m => by
    show psum n (m - 1) i a + numX n (nxt n i a).toNat (w ++ [s]) (m - 1) = psum n (m - 1) i a + numX n (nxt n i a).toNat w (m - 1) + psum n (m - (w.length + 1) - 1) (goes n (nxt n i a).toNat w) s
    rw [numX_snoc, show m - (w.length + 1) - 1 = m - 1 - w.length - 1 by omega]
    omega
theorem goes_snoc : goes n i (w ++ [s]) = (nxt n (goes n i w) s).toNat := by unfold goes; rw [List.foldl_append]; rfl
end
end Mt

set_option Elab.async false
set_option linter.all false
set_option autoImplicit false
/-! Towns as lists of addresses; beats; cells listed by the machine (plain Lean). -/
namespace Mt
def nbc (n : Int) (c : Wrd) : List Wrd := (sides n).map (crs n c)
def grw (n : Int) (T : List Wrd) : List Wrd := T ++ T.flatMap (nbc n)
def liv (n : Int) (T : List Wrd) (c : Wrd) : Nat := ((nbc n c).filter fun d => decide (d ∈ T)).length
def nxtT (n : Int) (r0 r1 : List Int) (T : List Wrd) : List Wrd := (grw n T).filter fun c => decide ((liv n T c : Int) ∈ if c ∈ T then r1 else r0)
def btI (n : Int) (r0 r1 : List Int) (T : List Wrd) : Nat → List Wrd
  | 0 => T
  | k + 1 => nxtT n r0 r1 (btI n r0 r1 T k)
def SameS (A B : List Wrd) : Prop := ∀ c, c ∈ A ↔ c ∈ B
def sameB (A B : List Wrd) : Bool := (A.all fun c => B.contains c) && B.all fun c => A.contains c
/-! the machine's lists -/
def stp (n : Int) (l : List (Nat × Wrd)) : List (Nat × Wrd) := l.flatMap fun p => ((sides n).filter fun k => decide (0 ≤ (rwO n p.1).getD k.toNat 0)).map fun k => (((rwO n p.1).getD k.toNat 0).toNat, p.2 ++ [k])
def cst (n : Int) : Nat → List (Nat × Wrd)
  | 0 => [(0, [])]
  | k + 1 => stp n (cst n k)
def cells (n : Int) (k : Nat) : List Wrd := (cst n k).map (·.2)
def balL (n : Int) (k : Nat) : List Wrd := (List.range (k + 1)).flatMap (cells n)
def ddp : List Wrd → List Wrd
  | [] => []
  | a :: l => if l.contains a = true then ddp l else a :: ddp l
def evr (n : Int) : List Int := (sides n).map (· + 1)
def alr (n : Int) : List Int := sides (n + 1)
def chkB1 (n : Int) : Bool := (List.range 3).all fun m => sameB (btI n (evr n) (alr n) [[]] m) (balL n m)
def chkB2 (n : Int) : Bool := sameB (btI n (evr n) [] [[]] 1) (cells n 1) && decide ((ddp (btI n (evr n) [] [[]] 2)).length = (rg n 2 + 1).toNat)
def chkB3 (n : Int) : Bool := decide ((ddp (btI n [1] [] [[]] 2)).length = (n * (n - 3)).toNat) && decide (btI n [2] [] [[]] 1 = []) && decide ((ddp (btI n [2] [] (cells n 1) 1)).length = n.toNat)
def chkB4 (n : Int) : Bool := decide (nxtT n [3] [1] [[]] = []) && (sides n).all fun s => sameB (nxtT n [3] [1] [[], [s]]) [[], [s]]
def chkB5 (n : Int) : Bool := (List.range 3).all fun m => decide ((ddp (balL n m)).length = (((List.range (m + 1)).map (rg n)).sum).toNat)
set_option maxRecDepth 100000 in
theorem chkB1_all : ([5, 6, 7] : List Int).all chkB1 = true := by decide +kernel
set_option maxRecDepth 100000 in
theorem chkB2_all : ([5, 6, 7] : List Int).all chkB2 = true := by decide +kernel
set_option maxRecDepth 100000 in
theorem chkB3_all : ([5, 6, 7] : List Int).all chkB3 = true := by decide +kernel
set_option maxRecDepth 100000 in
theorem chkB4_all : ([5, 6, 7] : List Int).all chkB4 = true := by decide +kernel
set_option maxRecDepth 100000 in
theorem chkB5_all : ([5, 6, 7] : List Int).all chkB5 = true := by decide +kernel
theorem SameS.refl (A : List Wrd) : SameS A A := fun _ => Iff.rfl
theorem SameS.symm {A B : List Wrd} (h : SameS A B) : SameS B A := fun c => (h c).symm
theorem SameS.trans {A B C : List Wrd} (h : SameS A B) (g : SameS B C) : SameS A C := fun c => (h c).trans (g c)
theorem sameB_iff {A B : List Wrd} (h : sameB A B = true) : SameS A B := by
  unfold sameB at h
  rw [Bool.and_eq_true, List.all_eq_true, List.all_eq_true] at h
  exact fun c => ⟨fun z => List.contains_iff_mem.mp (h.1 c z), fun z => List.contains_iff_mem.mp (h.2 c z)⟩
section
variable {n s : Int} {r0 r1 : List Int} {A B T : List Wrd} {c d g : Wrd} {F G : Int → Int}
theorem mem_nbc : d ∈ nbc n c ↔ ∃ s, (0 ≤ s ∧ s < n) ∧ crs n c s = d := by
  unfold nbc
  rw [List.mem_map]
  exact ⟨fun ⟨s, hs, e⟩ => ⟨s, mem_sides.mp hs, e⟩, fun ⟨s, hs, e⟩ => ⟨s, mem_sides.mpr hs, e⟩⟩
theorem mem_grw : d ∈ grw n T ↔ d ∈ T ∨ ∃ c ∈ T, d ∈ nbc n c := by
  unfold grw
  rw [List.mem_append, List.mem_flatMap]
theorem liv_same (h : SameS A B) : liv n A c = liv n B c := by
  unfold liv
  congr 1
  exact List.filter_congr fun d _ => decide_eq_decide.mpr (h d)
theorem grw_same (h : SameS A B) : SameS (grw n A) (grw n B) := fun d => by
  rw [mem_grw, mem_grw]
  exact or_congr (h d) ⟨fun ⟨c, hc, q⟩ => ⟨c, (h c).mp hc, q⟩, fun ⟨c, hc, q⟩ => ⟨c, (h c).mpr hc, q⟩⟩
theorem mem_nxtT : c ∈ nxtT n r0 r1 T ↔ c ∈ grw n T ∧ (liv n T c : Int) ∈ if c ∈ T then r1 else r0 := by
  unfold nxtT
  rw [List.mem_filter, decide_eq_true_eq]
theorem nxtT_same (h : SameS A B) : SameS (nxtT n r0 r1 A) (nxtT n r0 r1 B) := fun c => by
  rw [mem_nxtT, mem_nxtT, grw_same h c, liv_same h]
  have : (if c ∈ A then r1 else r0) = if c ∈ B then r1 else r0 := by
    by_cases q : c ∈ A
    · rw [if_pos q, if_pos ((h c).mp q)]
    · rw [if_neg q, if_neg fun z => q ((h c).mpr z)]
  rw [this]
theorem btI_same (h : SameS A B) : ∀ k, SameS (btI n r0 r1 A k) (btI n r0 r1 B k)
  | 0 => h
  | k + 1 => nxtT_same (btI_same h k)
/-- all are addresses -/
def AllN (n : Int) (T : List Wrd) : Prop := ∀ c ∈ T, NF n c
theorem AllN.nbc (h3 : 3 ≤ n) (hc : NF n c) : AllN n (nbc n c) := fun d hd => by
  obtain ⟨s, hs, rfl⟩ := mem_nbc.mp hd
  exact NF.crs h3 hc hs
theorem AllN.grw (h3 : 3 ≤ n) (h : AllN n T) : AllN n (grw n T) := fun d hd => by
  rcases mem_grw.mp hd with q | ⟨c, hc, q⟩
  · exact h d q
  · exact AllN.nbc h3 (h c hc) d q
theorem AllN.nxtT (h3 : 3 ≤ n) (h : AllN n T) : AllN n (nxtT n r0 r1 T) := fun d hd => h.grw h3 d (mem_nxtT.mp hd).1
theorem AllN.same (h : AllN n A) (s : SameS A B) : AllN n B := fun c hc => h c ((s c).mpr hc)
theorem AllN.btI (h3 : 3 ≤ n) (h : AllN n T) : ∀ k, AllN n (btI n r0 r1 T k)
  | 0 => h
  | k + 1 => (AllN.btI h3 h k).nxtT h3
/-! moved towns -/
def mvL (n : Int) (g : Wrd) (F : Int → Int) (T : List Wrd) : List Wrd := T.map (mv n g F)
theorem mvL_same (h : SameS A B) : SameS (mvL n g F A) (mvL n g F B) := fun d => by
  unfold mvL
  rw [List.mem_map, List.mem_map]
  exact ⟨fun ⟨c, hc, e⟩ => ⟨c, (h c).mp hc, e⟩, fun ⟨c, hc, e⟩ => ⟨c, (h c).mpr hc, e⟩⟩
theorem AllN.mvL (h3 : 3 ≤ n) (T' : Trn n F G) (hg : NF n g) (h : AllN n T) : AllN n (mvL n g F T) := fun d hd => by
  obtain ⟨c, hc, rfl⟩ := List.mem_map.mp hd
  exact mv_nf h3 T' hg (h c hc)
theorem mem_mvL (h3 : 3 ≤ n) (T' : Trn n F G) (hg : NF n g) (h : AllN n T) (hc : NF n c) : mv n g F c ∈ mvL n g F T ↔ c ∈ T := by
  constructor
  · intro q
    obtain ⟨d, hd, e⟩ := List.mem_map.mp q
    rw [← mv_inj h3 T' hg (h d hd) hc e]
    exact hd
  · exact fun q => List.mem_map.mpr ⟨c, q, rfl⟩
theorem sides_turn (T' : Trn n F G) : ((sides n).map F).Perm (sides n) := by
  refine (List.perm_ext_iff_of_nodup ?_ (nodup_sides n)).mpr fun j => ?_
  · rw [List.nodup_iff_pairwise_ne, List.pairwise_map]
    exact (List.nodup_iff_pairwise_ne.mp (nodup_sides n)).imp fun h q => h (T'.inj q)
  · rw [List.mem_map]
    constructor
    · rintro ⟨i, hi, rfl⟩
      exact mem_sides.mpr (T'.fr i (mem_sides.mp hi))
    · intro h
      exact ⟨G j, mem_sides.mpr (T'.gr j (mem_sides.mp h)), T'.fg j⟩
theorem nbc_mv (h3 : 3 ≤ n) (T' : Trn n F G) (hg : NF n g) (hc : NF n c) : (nbc n (mv n g F c)).Perm (mvL n g F (nbc n c)) := by
  have e : mvL n g F (nbc n c) = ((sides n).map F).map (crs n (mv n g F c)) := by
    unfold mvL nbc
    rw [List.map_map, List.map_map]
    exact List.map_congr_left fun s hs => mv_crs h3 T' hg hc (mem_sides.mp hs)
  rw [e]
  exact ((sides_turn T').map _).symm
theorem liv_mv (h3 : 3 ≤ n) (T' : Trn n F G) (hg : NF n g) (h : AllN n T) (hc : NF n c) : liv n (mvL n g F T) (mv n g F c) = liv n T c := by
  unfold liv
  rw [((nbc_mv h3 T' hg hc).filter _).length_eq]
  unfold mvL
  rw [List.filter_map, List.length_map]
  congr 1
  exact List.filter_congr fun d hd => decide_eq_decide.mpr (mem_mvL h3 T' hg h (AllN.nbc h3 hc d hd))
theorem grw_mv (h3 : 3 ≤ n) (T' : Trn n F G) (hg : NF n g) (h : AllN n T) : SameS (grw n (mvL n g F T)) (mvL n g F (grw n T)) := fun d => by
  rw [mem_grw]
  constructor
  · rintro (q | ⟨c, hc, q⟩)
    · obtain ⟨e, he, rfl⟩ := List.mem_map.mp q
      exact List.mem_map.mpr ⟨e, mem_grw.mpr (.inl he), rfl⟩
    · obtain ⟨e, he, rfl⟩ := List.mem_map.mp hc
      obtain ⟨f, hf, rfl⟩ := List.mem_map.mp ((nbc_mv h3 T' hg (h e he)).mem_iff.mp q)
      exact List.mem_map.mpr ⟨f, mem_grw.mpr (.inr ⟨e, he, hf⟩), rfl⟩
  · intro q
    obtain ⟨e, he, rfl⟩ := List.mem_map.mp q
    rcases mem_grw.mp he with z | ⟨c, hc, z⟩
    · exact .inl (List.mem_map.mpr ⟨e, z, rfl⟩)
    · exact .inr ⟨_, List.mem_map.mpr ⟨c, hc, rfl⟩, (nbc_mv h3 T' hg (h c hc)).mem_iff.mpr (List.mem_map.mpr ⟨e, z, rfl⟩)⟩
/-- a beat of the moved is the moved beat -/
theorem nxtT_mv (h3 : 3 ≤ n) (T' : Trn n F G) (hg : NF n g) (h : AllN n T) : SameS (nxtT n r0 r1 (mvL n g F T)) (mvL n g F (nxtT n r0 r1 T)) := fun d => by
  have key : ∀ c, NF n c → (((liv n (mvL n g F T) (mv n g F c) : Nat) : Int) ∈ (if mv n g F c ∈ mvL n g F T then r1 else r0) ↔ (liv n T c : Int) ∈ if c ∈ T then r1 else r0) := fun c hc => by
    rw [liv_mv h3 T' hg h hc]
    by_cases q : c ∈ T
    · rw [if_pos q, if_pos ((mem_mvL h3 T' hg h hc).mpr q)]
    · rw [if_neg q, if_neg fun z => q ((mem_mvL h3 T' hg h hc).mp z)]
  rw [mem_nxtT, grw_mv h3 T' hg h d]
  constructor
  · rintro ⟨q, l⟩
    obtain ⟨c, hc, rfl⟩ := List.mem_map.mp q
    exact List.mem_map.mpr ⟨c, mem_nxtT.mpr ⟨hc, (key c (h.grw h3 c hc)).mp l⟩, rfl⟩
  · intro q
    obtain ⟨c, hc, rfl⟩ := List.mem_map.mp q
    obtain ⟨z, l⟩ := mem_nxtT.mp hc
    exact ⟨List.mem_map.mpr ⟨c, z, rfl⟩, (key c (h.grw h3 c z)).mpr l⟩
theorem btI_mv (h3 : 3 ≤ n) (T' : Trn n F G) (hg : NF n g) (h : AllN n T) : ∀ k, SameS (btI n r0 r1 (mvL n g F T) k) (mvL n g F (btI n r0 r1 T k))
  | 0 => .refl _
  | k + 1 => (nxtT_same (btI_mv h3 T' hg h k)).trans (nxtT_mv h3 T' hg (h.btI h3 k))
/-! sizes -/
theorem mem_ddp {a : Wrd} : ∀ {l : List Wrd}, a ∈ ddp l ↔ a ∈ l
  | [] => Iff.rfl
  | b :: l => by
    unfold ddp
    have ih := mem_ddp (a := a) (l := l)
    by_cases h : l.contains b = true
    · rw [if_pos h, ih, List.mem_cons]
      exact ⟨.inr, fun z => z.elim (fun e => e ▸ List.contains_iff_mem.mp h) id⟩
    · rw [if_neg h, List.mem_cons, List.mem_cons, ih]
theorem nodup_ddp : ∀ l : List Wrd, (ddp l).Nodup
  | [] => List.nodup_nil
  | b :: l => by
    unfold ddp
    by_cases h : l.contains b = true
    · rw [if_pos h]; exact nodup_ddp l
    · rw [if_neg h]
      exact List.nodup_cons.mpr ⟨fun z => h (List.contains_iff_mem.mpr (mem_ddp.mp z)), nodup_ddp l⟩
theorem ddp_same (h : SameS A B) : (ddp A).length = (ddp B).length :=
  ((List.perm_ext_iff_of_nodup (nodup_ddp A) (nodup_ddp B)).mpr fun c => mem_ddp.trans ((h c).trans mem_ddp.symm)).length_eq
theorem ddp_mvL (h3 : 3 ≤ n) (T' : Trn n F G) (hg : NF n g) (h : AllN n T) : (ddp (mvL n g F T)).length = (ddp T).length := by
  have nd : (mvL n g F (ddp T)).Nodup := by
    unfold mvL
    rw [List.nodup_iff_pairwise_ne, List.pairwise_map]
    exact (List.nodup_iff_pairwise_ne.mp (nodup_ddp T)).imp_of_mem fun {a b} ha hb q e => q (mv_inj h3 T' hg (h a (mem_ddp.mp ha)) (h b (mem_ddp.mp hb)) e)
  have := ((List.perm_ext_iff_of_nodup (nodup_ddp (mvL n g F T)) nd).mpr fun c => mem_ddp.trans ((mvL_same (A := ddp T) (B := T) fun c => mem_ddp) c).symm).length_eq
  rw [this]
  unfold mvL
  rw [List.length_map]
end
end Mt

set_option Elab.async false
set_option linter.all false
set_option autoImplicit false
/-! What the lists of the machine hold (plain Lean). -/
namespace Mt
section
variable {n s : Int} {i k : Nat} {c : Wrd}
theorem nxt_rwO : nxt n i s = (rwO n i).getD s.toNat 0 := rfl
theorem mem_stp {l : List (Nat × Wrd)} {q : Nat × Wrd} : q ∈ stp n l ↔ ∃ p ∈ l, ∃ s, (0 ≤ s ∧ s < n) ∧ 0 ≤ nxt n p.1 s ∧ q = ((nxt n p.1 s).toNat, p.2 ++ [s]) := by
  unfold stp
  rw [List.mem_flatMap]
  constructor
  · rintro ⟨p, hp, h⟩
    obtain ⟨s, hs, e⟩ := List.mem_map.mp h
    obtain ⟨h1, h2⟩ := List.mem_filter.mp hs
    exact ⟨p, hp, s, mem_sides.mp h1, of_decide_eq_true h2, e.symm⟩
  · rintro ⟨p, hp, s, hs, h0, e⟩
    exact ⟨p, hp, List.mem_map.mpr ⟨s, List.mem_filter.mpr ⟨mem_sides.mpr hs, decide_eq_true h0⟩, e.symm⟩⟩
theorem accp_one : accp n i [s] = decide (0 ≤ nxt n i s) := Bool.and_true _
theorem mem_cst : ∀ {k : Nat} {i : Nat} {c : Wrd}, (i, c) ∈ cst n k ↔ inR n c ∧ c.length = k ∧ accp n 0 c = true ∧ i = goes n 0 c
  | 0, i, c => by
    show (i, c) ∈ [(0, [])] ↔ _
    rw [List.mem_singleton]
    constructor
    · intro e
      cases e
      exact ⟨fun b hb => (by cases hb), rfl, rfl, rfl⟩
    · rintro ⟨_, h2, _, h4⟩
      rw [List.eq_nil_of_length_eq_zero h2] at h4 ⊢
      rw [h4]
      rfl
  | k + 1, i, c => by
    show (i, c) ∈ stp n (cst n k) ↔ _
    rw [mem_stp]
    constructor
    · rintro ⟨⟨j, u⟩, hp, s, hs, h0, e⟩
      cases e
      obtain ⟨h1, h2, h3, h4⟩ := mem_cst.mp hp
      subst h4
      refine ⟨inR_append h1 (inR_one.mpr hs), by rw [List.length_append, h2]; rfl, ?_, goes_snoc.symm⟩
      rw [accp_append, h3, accp_one, decide_eq_true h0]
      rfl
    · rintro ⟨h1, h2, h3, h4⟩
      have hne : c ≠ [] := fun z => by rw [z] at h2; cases h2
      obtain ⟨u, s, rfl⟩ : ∃ u s, c = u ++ [s] := ⟨c.dropLast, c.getLast hne, (List.dropLast_concat_getLast hne).symm⟩
      rw [accp_append, Bool.and_eq_true, accp_one, decide_eq_true_eq] at h3
      rw [List.length_append, List.length_singleton] at h2
      have hs : 0 ≤ s ∧ s < n := h1 s (List.mem_append_right _ (List.mem_singleton.mpr rfl))
      refine ⟨(goes n 0 u, u), mem_cst.mpr ⟨fun b hb => h1 b (List.mem_append_left _ hb), by omega, h3.1, rfl⟩, s, hs, h3.2, ?_⟩
      rw [h4, goes_snoc]
theorem mem_cells (M : Mach n) : c ∈ cells n k ↔ NF n c ∧ c.length = k := by
  unfold cells
  rw [List.mem_map]
  constructor
  · rintro ⟨⟨i, u⟩, hp, rfl⟩
    obtain ⟨h1, h2, h3, _⟩ := mem_cst.mp hp
    exact ⟨(M.nf h1).mpr h3, h2⟩
  · rintro ⟨h1, h2⟩
    exact ⟨(goes n 0 c, c), mem_cst.mpr ⟨h1.ir, h2, (M.nf h1.ir).mp h1, rfl⟩, rfl⟩
theorem mem_balL (M : Mach n) : c ∈ balL n k ↔ NF n c ∧ c.length ≤ k := by
  unfold balL
  rw [List.mem_flatMap]
  constructor
  · rintro ⟨j, hj, h⟩
    obtain ⟨h1, h2⟩ := (mem_cells M).mp h
    have := List.mem_range.mp hj
    exact ⟨h1, by omega⟩
  · rintro ⟨h1, h2⟩
    exact ⟨c.length, List.mem_range.mpr (by omega), (mem_cells M).mpr ⟨h1, rfl⟩⟩
theorem cells_nodup : ∀ k, (cells n k).Nodup
  | 0 => by show ([[]] : List Wrd).Nodup; simp
  | k + 1 => by
    have ih := cells_nodup k
    unfold cells at ih ⊢
    show ((stp n (cst n k)).map (·.2)).Nodup
    generalize cst n k = l at ih
    unfold stp
    rw [List.map_flatMap]
    induction l with
    | nil => exact List.nodup_nil
    | cons p l ih2 =>
      rw [List.map_cons, List.nodup_cons] at ih
      rw [List.flatMap_cons, List.nodup_append]
      refine ⟨?_, ih2 ih.2, ?_⟩
      · rw [List.map_map, List.nodup_iff_pairwise_ne, List.pairwise_map]
        refine ((List.nodup_iff_pairwise_ne.mp (nodup_sides n)).filter _).imp fun h e => h ?_
        have e : p.2 ++ [_] = p.2 ++ [_] := e
        exact (List.cons.inj (List.append_cancel_left e)).1
      · intro a ha b hb e
        subst e
        obtain ⟨x, hx, rfl⟩ := List.mem_map.mp ha
        obtain ⟨s, _, rfl⟩ := List.mem_map.mp hx
        obtain ⟨q, hq, h⟩ := List.mem_flatMap.mp hb
        obtain ⟨y, hy, e⟩ := List.mem_map.mp h
        obtain ⟨t, _, rfl⟩ := List.mem_map.mp hy
        have e2 : q.2 = p.2 := (List.append_inj' (show q.2 ++ [t] = p.2 ++ [s] from e) rfl).1
        exact ih.1 (List.mem_map.mpr ⟨q, hq, e2⟩)
theorem balL_nodup (M : Mach n) : ∀ k, (balL n k).Nodup
  | 0 => by
    have := cells_nodup (n := n) 0
    show ((List.range 1).flatMap (cells n)).Nodup
    rw [List.range_succ, List.range_zero, List.nil_append, List.flatMap_cons, List.flatMap_nil, List.append_nil]
    exact this
  | k + 1 => by
    have ih := balL_nodup M k
    unfold balL at ih ⊢
    rw [List.range_succ, List.flatMap_append, List.flatMap_cons, List.flatMap_nil, List.append_nil, List.nodup_append]
    refine ⟨ih, cells_nodup _, fun a ha b hb e => ?_⟩
    subst e
    have h1 := ((mem_balL M (k := k)).mp ha).2
    have h2 := ((mem_cells M).mp hb).2
    omega
end
end Mt

set_option Elab.async false
set_option linter.all false
set_option maxRecDepth 100000
set_option maxHeartbeats 4000000
set_option autoImplicit false
namespace Wd
open PySem PyProof.Rows L2
def G_meet : FS := (gRet (fBin dIn (fBin dMod (fBin dSub (fVar 1) (fVar 2)) (fVar 0)) (fTup (fCons (fC (.int 1)) (fCons (fBin dSub (fVar 0) (fC (.int 1))) fNil)))))
def F_meet : List D → Option D := run 3 3 G_meet
def C_first_sides_0 : FA := (fLc (fRng1 (fCons (fVar 3) fNil)) [4] (sName 4) fYes (fApp F_meet (fCons (fVar 0) (fCons (fBin dIx (fVar 1) (fVar 4)) (fCons (fBin dIx (fVar 1) (fVar 3)) fNil)))))
def B_first_sides_0 : FS := (gIf (fTest (fApp dAll (fCons (fOfL C_first_sides_0) fNil))) (gApp 2 (fVar 3)) gNext)
def G_first_sides : FS := (gSeq (gOwn 2 (fLst fNil))
    (gSeq (gFor (fRng1 (fCons (fApp dLen (fCons (fVar 1) fNil)) fNil)) (sName 3) B_first_sides_0)
    (gRet (fVar 2))))
def F_first_sides : List D → Option D := run 5 2 G_first_sides
def C_in_form_0 : FA := (fLc (fIter (fApp F_first_sides (fCons (fVar 0) (fCons (fVar 1) fNil)))) [4] (sName 4) fYes (fTup (fCons (fBin dIx (fVar 1) (fVar 4)) (fCons (fVar 4) fNil))))
def B_in_form_0 : FS := (gSeq (gSet 3 (fBin dIx (fApp dMin (fCons (fOfL C_in_form_0) fNil)) (fC (.int 1))))
    (gSeq (gAug 2 dAddI (fTup (fCons (fBin dIx (fVar 1) (fVar 3)) fNil)))
    (gSet 1 (fBin dAdd (fSl (fVar 1) fNoPart (fPart (fVar 3))) (fSl (fVar 1) (fPart (fBin dAdd (fVar 3) (fC (.int 1)))) fNoPart)))))
def G_in_form : FS := (gSeq (gSet 2 (fTup fNil))
    (gSeq (whileF (fTest (fBin dGt (fApp dLen (fCons (fVar 1) fNil)) (fC (.int 0)))) B_in_form_0 100000)
    (gRet (fVar 2))))
def F_in_form : List D → Option D := run 5 2 G_in_form
def B_crossed_0 : FS := (gSeq (gIf (fTest (fBin dEq (fBin dIx (fVar 1) (fVar 3)) (fVar 2))) (gRet (fApp F_in_form (fCons (fVar 0) (fCons (fBin dAdd (fSl (fVar 1) fNoPart (fPart (fVar 3))) (fSl (fVar 1) (fPart (fBin dAdd (fVar 3) (fC (.int 1)))) fNoPart)) fNil)))) gNext)
    (gIf (fNot (fTest (fApp F_meet (fCons (fVar 0) (fCons (fBin dIx (fVar 1) (fVar 3)) (fCons (fVar 2) fNil)))))) gBreak gNext))
def G_crossed : FS := (gSeq (gFor (fRng3 (fCons (fBin dSub (fApp dLen (fCons (fVar 1) fNil)) (fC (.int 1))) (fCons (fUn dNeg (fC (.int 1))) (fCons (fUn dNeg (fC (.int 1))) fNil)))) (sName 3) B_crossed_0)
    (gRet (fApp F_in_form (fCons (fVar 0) (fCons (fBin dAdd (fVar 1) (fTup (fCons (fVar 2) fNil))) fNil)))))
def F_crossed : List D → Option D := run 4 3 G_crossed
def B_times_0 : FS := (gSet 1 (fApp F_crossed (fCons (fVar 0) (fCons (fVar 1) (fCons (fVar 3) fNil)))))
def G_times : FS := (gSeq (gFor (fIter (fVar 2)) (sName 3) B_times_0)
    (gRet (fVar 1)))
def F_times : List D → Option D := run 4 3 G_times
def C_neighbours_0 : FA := (fLc (fRng1 (fCons (fVar 0) fNil)) [2] (sName 2) fYes (fApp F_crossed (fCons (fVar 0) (fCons (fVar 1) (fCons (fVar 2) fNil)))))
def G_neighbours : FS := (gRet (fOfL C_neighbours_0))
def F_neighbours : List D → Option D := run 3 2 G_neighbours
def C_barred_after_0 : FA := (fLc (fIter (fTup (fCons (fBin dMod (fBin dSub (fVar 2) (fC (.int 1))) (fVar 0)) (fCons (fBin dMod (fBin dAdd (fVar 2) (fC (.int 1))) (fVar 0)) fNil)))) [4] (sName 4) (fOr (fTest (fBin dIn (fVar 4) (fVar 1))) (fTest (fBin dLt (fVar 4) (fVar 2)))) (fVar 4))
def G_barred_after : FS := (gSeq (gSet 3 (fOfL C_barred_after_0))
    (gRet (fApp dTuple (fCons (fApp dSorted (fCons (fBin dAdd (fOfL (fLst (fCons (fVar 2) fNil))) (fVar 3)) fNil)) fNil))))
def F_barred_after : List D → Option D := run 5 3 G_barred_after
def C_turns_0 : FA := (fLc (fRng1 (fCons (fVar 0) fNil)) [3] (sName 3) fYes (fBin dMod (fBin dSub (fVar 2) (fVar 3)) (fVar 0)))
def C_turns_1 : FA := (fLc (fRng1 (fCons (fVar 0) fNil)) [2] (sName 2) fYes (fApp dTuple (fCons (fOfL C_turns_0) fNil)))
def C_turns_2 : FA := (fLc (fRng1 (fCons (fVar 0) fNil)) [3] (sName 3) fYes (fBin dMod (fBin dAdd (fVar 3) (fVar 2)) (fVar 0)))
def C_turns_3 : FA := (fLc (fRng1 (fCons (fVar 0) fNil)) [2] (sName 2) fYes (fApp dTuple (fCons (fOfL C_turns_2) fNil)))
def G_turns : FS := (gSeq (gSet 1 (fOfL C_turns_3))
    (gRet (fBin dAdd (fVar 1) (fOfL C_turns_1))))
def F_turns : List D → Option D := run 4 1 G_turns
def C_moved_0 : FA := (fLc (fIter (fVar 2)) [5] (sName 5) fYes (fBin dIx (fVar 4) (fVar 5)))
def G_moved : FS := (gSeq (gAsg (sTup2 3 4) (fVar 1))
    (gRet (fApp F_times (fCons (fVar 0) (fCons (fVar 3) (fCons (fApp F_in_form (fCons (fVar 0) (fCons (fApp dTuple (fCons (fOfL C_moved_0) fNil)) fNil))) fNil))))))
def F_moved : List D → Option D := run 6 3 G_moved
def G_figure : FS := (gRet (fApp dTuple (fCons (fSortSet (fVar 0)) fNil)))
def F_figure : List D → Option D := run 1 1 G_figure
def C_moved_figure_0 : FA := (fLc (fIter (fVar 2)) [3] (sName 3) fYes (fApp F_moved (fCons (fVar 0) (fCons (fVar 1) (fCons (fVar 3) fNil)))))
def G_moved_figure : FS := (gRet (fApp F_figure (fCons (fOfL C_moved_figure_0) fNil)))
def F_moved_figure : List D → Option D := run 4 3 G_moved_figure
def C_grown_0 : FA := (fLc2 (fIter (fVar 1)) [2, 3] (sName 2) (fRng1 (fCons (fVar 0) fNil)) [3] (sName 3) fYes (fApp F_crossed (fCons (fVar 0) (fCons (fVar 2) (fCons (fVar 3) fNil)))))
def G_grown : FS := (gRet (fApp F_figure (fCons (fBin dAdd (fApp dList (fCons (fVar 1) fNil)) (fOfL C_grown_0)) fNil)))
def F_grown : List D → Option D := run 4 2 G_grown
def C_living_0 : FA := (fLc (fIter (fApp F_neighbours (fCons (fVar 0) (fCons (fVar 2) fNil)))) [3] (sName 3) (fTest (fBin dIn (fVar 3) (fVar 1))) (fVar 3))
def G_living : FS := (gRet (fApp dLen (fCons (fOfL C_living_0) fNil)))
def F_living : List D → Option D := run 4 3 G_living
def B_beat_0 : FS := (gIf (fTest (fBin dIn (fApp F_living (fCons (fVar 0) (fCons (fVar 2) (fCons (fVar 4) fNil)))) (fBin dIx (fVar 1) (fIf (fTest (fBin dIn (fVar 4) (fVar 2))) (fC (.int 1)) (fC (.int 0)))))) (gApp 3 (fVar 4)) gNext)
def G_beat : FS := (gSeq (gOwn 3 (fLst fNil))
    (gSeq (gFor (fIter (fApp F_grown (fCons (fVar 0) (fCons (fVar 2) fNil)))) (sName 4) B_beat_0)
    (gRet (fApp F_figure (fCons (fVar 3) fNil)))))
def F_beat : List D → Option D := run 5 3 G_beat
def B_beats_0 : FS := (gSet 2 (fApp F_beat (fCons (fVar 0) (fCons (fVar 1) (fCons (fVar 2) fNil)))))
def G_beats : FS := (gSeq (gFor (fRng1 (fCons (fVar 3) fNil)) (sName 4) B_beats_0)
    (gRet (fVar 2)))
def F_beats : List D → Option D := run 5 4 G_beats
def B_fate_0 : FS := (gSeq (gSet 6 (fFrz (fApp F_beat (fCons (fVar 0) (fCons (fVar 1) (fCons (fBin dIx (fVar 4) (fUn dNeg (fC (.int 1)))) fNil))))))
    (gSeq (gIf (tFrz (fTest (fBin dIn (fVar 6) (fVar 4)))) (gRet (fTup (fCons (fBin dIndex (fVar 4) (fVar 6)) (fCons (fBin dSub (fApp dLen (fCons (fVar 4) fNil)) (fBin dIndex (fVar 4) (fVar 6))) fNil)))) gNext)
    (gApp 4 (fVar 6))))
def G_fate : FS := (gSeq (gOwn 4 (fLst (fCons (fVar 2) fNil)))
    (gSeq (gFor (fRng1 (fCons (fVar 3) fNil)) (sName 5) B_fate_0)
    (gRet (fC .none))))
def F_fate : List D → Option D := run 7 4 G_fate
def B_machine_0 : FS := (gSeq (gIf (tFrz (fTest (fBin dIn (fVar 5) (fBin dIx (fVar 1) (fVar 3))))) (gSeq (gApp 4 (fUn dNeg (fC (.int 1))))
    gCont) gNext)
    (gSeq (gSet 6 (fFrz (fApp F_barred_after (fCons (fVar 0) (fCons (fBin dIx (fVar 1) (fVar 3)) (fCons (fVar 5) fNil))))))
    (gSeq (gIf (tFrz (fTest (fBin dNotIn (fVar 6) (fVar 1)))) (gApp 1 (fVar 6)) gNext)
    (gApp 4 (fFrz (fBin dIndex (fVar 1) (fVar 6)))))))
def B_machine_1 : FS := (gSeq (gOwn 4 (fLst fNil))
    (gSeq (gFor (fRng1 (fCons (fVar 0) fNil)) (sName 5) B_machine_0)
    (gSeq (gApp 2 (fFrz (fApp dTuple (fCons (fVar 4) fNil))))
    (gAug 3 dAddI (fC (.int 1))))))
def G_machine : FS := (gSeq (gOwn 1 (fLst (fCons (fTup fNil) fNil)))
    (gSeq (gOwn 2 (fLst fNil))
    (gSeq (gSet 3 (fC (.int 0)))
    (gSeq (whileF (tFrz (fTest (fBin dLt (fVar 3) (fApp dLen (fCons (fVar 1) fNil))))) B_machine_1 100000)
    (gRet (fTup (fCons (fApp dTuple (fCons (fVar 1) fNil)) (fCons (fApp dTuple (fCons (fVar 2) fNil)) fNil))))))))
def F_machine : List D → Option D := run 7 1 G_machine
def B_ring_0 : FS := (gPar 2 3 (fCons (fVar 3) (fCons (fBin dSub (fBin dMul (fBin dSub (fVar 0) (fC (.int 2))) (fVar 3)) (fVar 2)) fNil)))
def G_ring : FS := (gSeq (gIf (fTest (fBin dLt (fVar 1) (fC (.int 2)))) (gRet (fIf (fTest (fBin dEq (fVar 1) (fC (.int 1)))) (fVar 0) (fC (.int 1)))) gNext)
    (gSeq (gPar 2 3 (fCons (fVar 0) (fCons (fBin dMul (fVar 0) (fBin dSub (fVar 0) (fC (.int 2)))) fNil)))
    (gSeq (gFor (fRng1 (fCons (fBin dSub (fVar 1) (fC (.int 2))) fNil)) (sName 4) B_ring_0)
    (gRet (fVar 3)))))
def F_ring : List D → Option D := run 5 2 G_ring
def C_ball_0 : FA := (fLc (fRng1 (fCons (fBin dAdd (fVar 1) (fC (.int 1))) fNil)) [2] (sName 2) fYes (fApp F_ring (fCons (fVar 0) (fCons (fVar 2) fNil))))
def G_ball : FS := (gRet (fApp dSum (fCons (fOfL C_ball_0) fNil)))
def F_ball : List D → Option D := run 3 2 G_ball
def C_cells_at_0 : FA := (fLc (fIter (fVar 3)) [4, 5] (sTup2 4 5) fYes (fVar 5))
def C_cells_at_1 : FA := (fLc2 (fIter (fVar 3)) [6, 5, 7] (sTup2 6 5) (fRng1 (fCons (fVar 0) fNil)) [7] (sName 7) (fTest (fBin dGe (fBin dIx (fBin dIx (fVar 2) (fVar 6)) (fVar 7)) (fC (.int 0)))) (fTup (fCons (fBin dIx (fBin dIx (fVar 2) (fVar 6)) (fVar 7)) (fCons (fBin dAdd (fVar 5) (fTup (fCons (fVar 7) fNil))) fNil))))
def B_cells_at_0 : FS := (gSet 3 (fOfL C_cells_at_1))
def G_cells_at : FS := (gSeq (gSet 2 (fBin dIx (fApp F_machine (fCons (fVar 0) fNil)) (fC (.int 1))))
    (gSeq (gSet 3 (fOfL (fLst (fCons (fTup (fCons (fC (.int 0)) (fCons (fTup fNil) fNil))) fNil))))
    (gSeq (gFor (fRng1 (fCons (fVar 1) fNil)) (sName 4) B_cells_at_0)
    (gRet (fOfL C_cells_at_0)))))
def F_cells_at : List D → Option D := run 8 2 G_cells_at
def C_round_ball_0 : FA := (fLc2 (fRng1 (fCons (fBin dAdd (fVar 1) (fC (.int 1))) fNil)) [2, 3] (sName 2) (fIter (fApp F_cells_at (fCons (fVar 0) (fCons (fVar 2) fNil)))) [3] (sName 3) fYes (fVar 3))
def G_round_ball : FS := (gRet (fApp F_figure (fCons (fOfL C_round_ball_0) fNil)))
def F_round_ball : List D → Option D := run 4 2 G_round_ball
def C__law_same_0 (rec : List D → Option D) : FA := (fLc (fRng1 (fCons (fApp dLen (fCons (fVar 1) fNil)) fNil)) [2] (sName 2) (fNot (fTest (fApp rec (fCons (fBin dIx (fVar 0) (fVar 2)) (fCons (fBin dIx (fVar 1) (fVar 2)) fNil))))) (fVar 2))
def G__law_same (rec : List D → Option D) : FS := (gSeq (gIf (fOr (fTest (fUn (dIsi "tuple") (fVar 1))) (fTest (fUn (dIsi "list") (fVar 1)))) (gSeq (gIf (fOr (fTest (fBin dNe (fUn (dIsi "tuple") (fVar 1)) (fUn (dIsi "tuple") (fVar 0)))) (fOr (fTest (fBin dNe (fUn (dIsi "list") (fVar 1)) (fUn (dIsi "list") (fVar 0)))) (fTest (fBin dNe (fApp dLen (fCons (fVar 0) fNil)) (fApp dLen (fCons (fVar 1) fNil)))))) (gRet (fC (.bool false))) gNext)
    (gRet (fBin dEq (fApp dLen (fCons (fOfL (C__law_same_0 rec)) fNil)) (fC (.int 0))))) gNext)
    (gSeq (gIf (fTest (fBin dIsN (fVar 1) (fC .none))) (gRet (fBin dIsN (fVar 0) (fC .none))) gNext)
    (gSeq (gIf (fOr (fTest (fUn (dIsi "bool") (fVar 1))) (fTest (fUn (dIsi "bool") (fVar 0)))) (gRet (fAndV (fUn (dIsi "bool") (fVar 1)) (fAndV (fUn (dIsi "bool") (fVar 0)) (fBin dEq (fVar 0) (fVar 1))))) gNext)
    (gSeq (gIf (fTest (fUn (dIsi "int") (fVar 1))) (gRet (fAndV (fUn (dIsi "int") (fVar 0)) (fBin dEq (fVar 0) (fVar 1)))) gNext)
    (gRet (fAndV (fUn (dIsi "str") (fVar 0)) (fAndV (fUn (dIsi "str") (fVar 1)) (fBin dEq (fVar 0) (fVar 1)))))))))
def F__law_same : Nat → List D → Option D
  | 0 => fun _ => none
  | j + 1 => run 3 2 (G__law_same (F__law_same j))
def B__law_spread_0 : FS := (gSeq (gSet 1 (fBin dMod (fApp dInt (fCons (fBin dAdd (fBin dAdd (fBin dMul (fVar 1) (fC (.int 48271))) (fC (.int 12345))) (fVar 3)) fNil)) (fC (.int 2147483647))))
    (gSet 2 (fBin dAdd (fBin dMul (fVar 2) (fC (.int 2147483647))) (fVar 1))))
def G__law_spread : FS := (gSeq (gSet 1 (fBin dMod (fApp dInt (fCons (fVar 0) fNil)) (fC (.int 2147483647))))
    (gSeq (gSet 2 (fC (.int 1)))
    (gSeq (gFor (fRng1 (fCons (fC (.int 4)) fNil)) (sName 3) B__law_spread_0)
    (gRet (fVar 2)))))
def F__law_spread : List D → Option D := run 4 1 G__law_spread
def L__law_draw_0 : FS := (gPutP 0 (fC (.int 2)) (fFrz (fBin dDiv (fBin dIx (fVar 0) (fC (.int 2))) (fVar 1))))
def L__law_draw_1 : FS := (gSet 4 (fFrz (fBin dMod (fApp dInt (fCons (fBin dIx (fVar 0) (fC (.int 2))) fNil)) (fVar 1))))
def L__law_draw_2 : FS := (gSet 3 (fFrz (fBin dMod (fApp dInt (fCons (fBin dAdd (fBin dMul (fVar 3) (fC (.int 16807))) (fBin dIx (fVar 0) (fC (.int 3)))) fNil)) (fC (.int 2147483629)))))
def L__law_draw_3 : FS := (gSet 3 (fFrz (fBin dMod (fApp dInt (fCons (fBin dAdd (fBin dAdd (fBin dMul (fBin dIx (fVar 0) (fC (.int 4))) (fC (.int 48271))) (fBin dMul (fBin dIx (fVar 0) (fC (.int 3))) (fC (.int 69621)))) (fC (.int 1))) fNil)) (fC (.int 2147483647)))))
def T__law_draw_0 : FT := (tFrz (fTest (fBin dLe (fBin dIx (fVar 0) (fC (.int 2))) (fC (.int 0)))))
def L__law_draw_4 : FS := (gPutP 0 (fC (.int 3)) (fFrz (fBin dAdd (fBin dIx (fVar 0) (fC (.int 3))) (fC (.int 1)))))
def L__law_draw_5 : FS := (gIf (tFrz (fAnd (fTest (fBin dLe (fBin dIx (fVar 0) (fC (.int 2))) (fC (.int 0)))) (fTest (fBin dLt (fBin dIx (fVar 0) (fC (.int 1))) (fApp dLen (fCons (fBin dIx (fVar 0) (fC (.int 0))) fNil)))))) (gSeq (gSet 2 (fFrz (fBin dIx (fBin dIx (fVar 0) (fC (.int 0))) (fBin dIx (fVar 0) (fC (.int 1))))))
    (gSeq (gPutP 0 (fC (.int 1)) (fFrz (fBin dAdd (fBin dIx (fVar 0) (fC (.int 1))) (fC (.int 1)))))
    (gSeq (gPutP 0 (fC (.int 2)) (fVar 2))
    (gIf (fTest (fBin dLt (fVar 2) (fC (.int 1000000000000000000)))) (gPutP 0 (fC (.int 2)) (fApp F__law_spread (fCons (fVar 2) fNil))) gNext)))) gNext)
def W__law_draw : FW := (wSeq (wLift L__law_draw_5)
    (wSeq (wLift L__law_draw_4)
    (wSeq (wIf T__law_draw_0 (wSeq (wLift L__law_draw_3)
    (wSeq (wLift L__law_draw_2)
    (wRet (wL (fBin dMod (fBin dDiv (fVar 3) (fC (.int 5))) (fVar 1)))))) wNx)
    (wSeq (wLift L__law_draw_1)
    (wSeq (wLift L__law_draw_0)
    (wRet (wL (fVar 4))))))))
def W__law_pick : FW := (wRet (wBin dIx (wL (fVar 1)) (wPool 0 R__law_draw (fCons (fApp dLen (fCons (fVar 1) fNil)) fNil))))
def W__law_word : FW := (wRet (wApp dTuple (wCons (wLc 0 (wRng1 (wCons (wPool 0 R__law_draw (fCons (fBin dAdd (fVar 2) (fC (.int 1))) fNil)) (wLA fNil))) [3] (sName 3) (wLT fYes) (wPool 0 R__law_draw (fCons (fVar 1) fNil))) (wLA fNil))))
def G__law_near : FS := (gRet (fOrV (fBin dEq (fBin dMod (fApp dInt (fCons (fBin dSub (fVar 1) (fVar 2)) fNil)) (fVar 0)) (fC (.int 1))) (fBin dEq (fBin dMod (fApp dInt (fCons (fBin dSub (fVar 2) (fVar 1)) fNil)) (fVar 0)) (fC (.int 1)))))
def F__law_near : List D → Option D := run 3 3 G__law_near
def B__law_column_0 : FS := (gIf (fAnd (fTest (fBin dNe (fVar 7) (fVar 5))) (fNot (fTest (fApp F__law_near (fCons (fVar 0) (fCons (fVar 7) (fCons (fVar 5) fNil))))))) (gSet 6 (fFrz (fBin dSub (fVar 6) (fBin dIx (fVar 3) (fVar 7))))) gNext)
def B__law_column_1 : FS := (gSeq (gSet 5 (fBin dIx (fVar 1) (fBin dSub (fBin dSub (fApp dLen (fCons (fVar 1) fNil)) (fC (.int 1))) (fVar 4))))
    (gSeq (gSet 6 (fFrz (fBin dIx (fVar 3) (fVar 5))))
    (gSeq (gFor (fRng1 (fCons (fVar 0) fNil)) (sName 7) B__law_column_0)
    (gPut 3 (fVar 5) (fFrz (fBin dSub (fBin dIx (fVar 3) (fVar 5)) (fBin dMul (fC (.int 2)) (fVar 6))))))))
def G__law_column : FS := (gSeq (gOwn 3 (fRepL (fLst (fCons (fC (.int 0)) fNil)) (fVar 0)))
    (gSeq (gPut 3 (fVar 2) (fC (.int 1)))
    (gSeq (gFor (fRng1 (fCons (fApp dLen (fCons (fVar 1) fNil)) fNil)) (sName 4) B__law_column_1)
    (gRet (fVar 3)))))
def F__law_column : List D → Option D := run 8 3 G__law_column
def C__law_shorter_0 : FA := (fLc (fIter (fApp F__law_column (fCons (fVar 0) (fCons (fVar 1) (fCons (fVar 2) fNil))))) [3] (sName 3) (fTest (fBin dGt (fVar 3) (fC (.int 0)))) (fVar 3))
def G__law_shorter : FS := (gRet (fBin dEq (fApp dLen (fCons (fOfL C__law_shorter_0) fNil)) (fC (.int 0))))
def F__law_shorter : List D → Option D := run 4 3 G__law_shorter
def C__law_form_0 : FA := (fLc (fRng1 (fCons (fVar 0) fNil)) [6] (sName 6) (fTest (fApp F__law_shorter (fCons (fVar 0) (fCons (fVar 3) (fCons (fVar 6) fNil))))) (fVar 6))
def B__law_form_0 : FS := (gSeq (gSet 5 (fOfL C__law_form_0))
    (gIf (fTest (fBin dNe (fVar 5) (fOfL (fLst fNil)))) (gSeq (gApp 2 (fBin dIx (fVar 5) (fC (.int 0))))
    (gSet 3 (fBin dAdd (fVar 3) (fOfL (fLst (fCons (fBin dIx (fVar 5) (fC (.int 0))) fNil)))))) gNext))
def G__law_form : FS := (gSeq (gParO 2 3 (fLst fNil) (fUn dRevL (fApp dList (fCons (fVar 1) fNil))))
    (gSeq (gFor (fRng1 (fCons (fBin dAdd (fApp dLen (fCons (fVar 1) fNil)) (fC (.int 1))) fNil)) (sName 4) B__law_form_0)
    (gRet (fApp dTuple (fCons (fVar 2) fNil)))))
def F__law_form : List D → Option D := run 7 2 G__law_form
def W__law_cell : FW := (wRet (wApp F__law_form (wCons (wL (fVar 1)) (wCons (wPool 0 R__law_word (fCons (fVar 1) (fCons (fVar 2) fNil))) (wLA fNil)))))
def T_law_0 : FT := (fNot (fTest (fApp (F__law_same 8) (fCons (fOfL (fLst (fCons (fApp F_beat (fCons (fVar 2) (fCons (fTup (fCons (fTup (fCons (fC (.int 3)) fNil)) (fCons (fTup (fCons (fC (.int 1)) fNil)) fNil))) (fCons (fVar 12) fNil)))) (fCons (fApp F_fate (fCons (fVar 2) (fCons (fTup (fCons (fTup (fCons (fC (.int 3)) fNil)) (fCons (fTup (fCons (fC (.int 1)) fNil)) fNil))) (fCons (fVar 12) (fCons (fC (.int 3)) fNil))))) (fCons (fApp F_fate (fCons (fVar 2) (fCons (fTup (fCons (fTup (fCons (fC (.int 3)) fNil)) (fCons (fTup (fCons (fC (.int 1)) fNil)) fNil))) (fCons (fTup (fCons (fVar 4) fNil)) (fCons (fC (.int 3)) fNil))))) (fCons (fApp F_beat (fCons (fVar 2) (fCons (fTup (fCons (fTup (fCons (fC (.int 3)) fNil)) (fCons (fTup (fCons (fC (.int 1)) fNil)) fNil))) (fCons (fTup (fCons (fVar 4) fNil)) fNil)))) fNil)))))) (fCons (fOfL (fLst (fCons (fVar 12) (fCons (fTup (fCons (fC (.int 0)) (fCons (fC (.int 1)) fNil))) (fCons (fTup (fCons (fC (.int 1)) (fCons (fC (.int 1)) fNil))) (fCons (fTup fNil) fNil)))))) fNil)))))
def L_law_0 : FS := (gSet 12 (fApp dTuple (fCons (fApp dSorted (fCons (fOfL (fLst (fCons (fVar 4) (fCons (fApp F__law_form (fCons (fVar 2) (fCons (fBin dAdd (fVar 4) (fTup (fCons (fVar 11) fNil))) fNil))) fNil)))) fNil)) fNil)))
def T_law_1 : FT := (fTest (fBin dNe (fApp dLen (fCons (fVar 10) fNil)) (fVar 2)))
def L_law_1 : FS := (gSet 10 (fApp F_beats (fCons (fVar 2) (fCons (fTup (fCons (fTup (fCons (fC (.int 2)) fNil)) (fCons (fTup fNil) fNil))) (fCons (fApp F_moved_figure (fCons (fVar 2) (fCons (fVar 3) (fCons (fApp dTuple (fCons (fApp F_cells_at (fCons (fVar 2) (fCons (fC (.int 1)) fNil))) fNil)) fNil)))) (fCons (fC (.int 1)) fNil))))))
def T_law_2 : FT := (fOr (fTest (fBin dNe (fApp dLen (fCons (fVar 9) fNil)) (fBin dMul (fVar 2) (fBin dSub (fVar 2) (fC (.int 3)))))) (fTest (fBin dNe (fApp dLen (fCons (fApp F_beats (fCons (fVar 2) (fCons (fTup (fCons (fTup (fCons (fC (.int 2)) fNil)) (fCons (fTup fNil) fNil))) (fCons (fTup (fCons (fVar 4) fNil)) (fCons (fC (.int 1)) fNil))))) fNil)) (fC (.int 0)))))
def L_law_2 : FS := (gSet 9 (fApp F_beats (fCons (fVar 2) (fCons (fTup (fCons (fTup (fCons (fC (.int 1)) fNil)) (fCons (fTup fNil) fNil))) (fCons (fTup (fCons (fVar 4) fNil)) (fCons (fC (.int 2)) fNil))))))
def T_law_3 : FT := (fAnd (fTest (fBin dEq (fVar 6) (fC (.int 2)))) (fTest (fBin dNe (fApp dLen (fCons (fVar 8) fNil)) (fBin dAdd (fApp F_ring (fCons (fVar 2) (fCons (fC (.int 2)) fNil))) (fC (.int 1))))))
def T_law_4 : FT := (fAnd (fTest (fBin dLt (fVar 6) (fC (.int 2)))) (fNot (fTest (fApp (F__law_same 8) (fCons (fVar 8) (fCons (fApp F_moved_figure (fCons (fVar 2) (fCons (fVar 3) (fCons (fApp dTuple (fCons (fApp F_cells_at (fCons (fVar 2) (fCons (fVar 6) fNil))) fNil)) fNil)))) fNil))))))
def L_law_3 : FS := (gSet 8 (fApp F_beats (fCons (fVar 2) (fCons (fTup (fCons (fVar 5) (fCons (fTup fNil) fNil))) (fCons (fTup (fCons (fVar 4) fNil)) (fCons (fVar 6) fNil))))))
def T_law_5 : FT := (fNot (fTest (fApp (F__law_same 8) (fCons (fOfL (fLst (fCons (fVar 7) (fCons (fApp dLen (fCons (fVar 7) fNil)) fNil)))) (fCons (fOfL (fLst (fCons (fApp F_moved_figure (fCons (fVar 2) (fCons (fVar 3) (fCons (fApp F_round_ball (fCons (fVar 2) (fCons (fVar 6) fNil))) fNil)))) (fCons (fApp F_ball (fCons (fVar 2) (fCons (fVar 6) fNil))) fNil)))) fNil)))))
def L_law_4 : FS := (gSet 7 (fApp F_beats (fCons (fVar 2) (fCons (fTup (fCons (fVar 5) (fCons (fRgT (fRg1 (fBin dAdd (fVar 2) (fC (.int 1))))) fNil))) (fCons (fTup (fCons (fVar 4) fNil)) (fCons (fVar 6) fNil))))))
def L_law_5 : FS := (gSet 5 (fRgT (fRg2 (fC (.int 1)) (fBin dAdd (fVar 2) (fC (.int 1))))))
def L_law_6 : FS := (gSet 4 (fBin dIx (fVar 3) (fC (.int 0))))
def W_law : FW := (wSeq (wSet 2 (wBin dAdd (wL (fC (.int 5))) (wPool 1 R__law_draw (fCons (fC (.int 3)) fNil))))
    (wSeq (wSet 3 (wTup (wCons (wPool 1 R__law_cell (fCons (fVar 2) (fCons (fC (.int 3)) fNil))) (wCons (wPool 1 R__law_pick (fCons (fApp F_turns (fCons (fVar 2) fNil)) fNil)) (wLA fNil)))))
    (wSeq (wLift L_law_6)
    (wSeq (wLift L_law_5)
    (wSeq (wSet 6 (wPool 1 R__law_draw (fCons (fC (.int 3)) fNil)))
    (wSeq (wLift L_law_4)
    (wSeq (wIf T_law_5 (wRet (wL (fC (.bool false)))) wNx)
    (wSeq (wLift L_law_3)
    (wSeq (wIf T_law_4 (wRet (wL (fC (.bool false)))) wNx)
    (wSeq (wIf T_law_3 (wRet (wL (fC (.bool false)))) wNx)
    (wSeq (wLift L_law_2)
    (wSeq (wIf T_law_2 (wRet (wL (fC (.bool false)))) wNx)
    (wSeq (wLift L_law_1)
    (wSeq (wIf T_law_1 (wRet (wL (fC (.bool false)))) wNx)
    (wSeq (wSet 11 (wPool 1 R__law_draw (fCons (fVar 2) fNil)))
    (wSeq (wLift L_law_0)
    (wSeq (wIf T_law_0 (wRet (wL (fC (.bool false)))) wNx)
    (wRet (wL (fApp (F__law_same 8) (fCons (fApp F_fate (fCons (fVar 2) (fCons (fTup (fCons (fVar 5) (fCons (fRgT (fRg1 (fBin dAdd (fVar 2) (fC (.int 1))))) fNil))) (fCons (fTup (fCons (fVar 4) fNil)) (fCons (fC (.int 2)) fNil))))) (fCons (fC .none) fNil))))))))))))))))))))))
end Wd

set_option Elab.async false
set_option linter.all false
set_option maxRecDepth 100000
set_option maxHeartbeats 4000000
set_option autoImplicit false
/-! What the shared defs compute: meet, first_sides, in_form, crossed, times, back. -/
namespace Wd
open PySem PyProof.Rows L2 Mt

/-! ### data operations at known data -/
theorem dMod_ok {i j : Int} (h : 0 < j) : dMod (.int i) (.int j) = some (.int (i % j)) := if_pos h
theorem dAdd_ii {i j : Int} : dAdd (.int i) (.int j) = some (.int (i + j)) := rfl
theorem dSub_ii {i j : Int} : dSub (.int i) (.int j) = some (.int (i - j)) := rfl
theorem dGt_ii {i j : Int} : dGt (.int i) (.int j) = some (.bool (decide (j < i))) := rfl
theorem dLt_ii {i j : Int} : dLt (.int i) (.int j) = some (.bool (decide (i < j))) := rfl
theorem dEq_ii {i j : Int} : dEq (.int i) (.int j) = some (.bool (i == j)) := rfl
theorem dNe_ii {i j : Int} : dNe (.int i) (.int j) = some (.bool (!(i == j))) := rfl
theorem dNeg_i {i : Int} : dNeg (.int i) = some (.int (-i)) := rfl
theorem dLen_t {ds : List D} : dLen [.tuple ds] = some (.int ds.length) := rfl
theorem dLen_l {ds : List D} : dLen [.list ds] = some (.int ds.length) := rfl
theorem dLen_k {w : Wrd} : dLen [kT w] = some (.int w.length) := by
  show some (PyData.int ((w.map PyData.int).length : Nat)) = _
  rw [List.length_map]
theorem ixN_nat {n k : Nat} (h : k < n) : ixN n (k : Int) = some k := by
  unfold ixN
  rw [if_pos (by omega), if_pos (by omega), Int.toNat_natCast]
theorem atI_nat {α : Type} {xs : List α} {k : Nat} (h : k < xs.length) : atI xs (k : Int) = xs[k]? := by
  unfold atI
  rw [ixN_nat h]
  rfl
theorem dIx_k {w : Wrd} {k : Nat} (h : k < w.length) : dIx (kT w) (.int (k : Int)) = some (.int (w.getD k 0)) := by
  show atI (w.map PyData.int) (k : Int) = _
  rw [atI_nat (by rw [List.length_map]; exact h), List.getElem?_map, List.getElem?_eq_getElem h, List.getD_eq_getElem?_getD, List.getElem?_eq_getElem h]
  rfl
theorem dIx_lk {w : Wrd} {k : Nat} (h : k < w.length) : dIx (.list (w.map PyData.int)) (.int (k : Int)) = some (.int (w.getD k 0)) := dIx_k h
theorem kT_len {w : Wrd} : (w.map PyData.int).length = w.length := List.length_map _
theorem dAdd_k {u w : Wrd} (h : u.length + w.length ≤ 100000) : dAdd (kT u) (kT w) = some (kT (u ++ w)) := by
  show (if (u.map PyData.int).length + (w.map PyData.int).length ≤ 100000 then _ else _) = _
  rw [kT_len, kT_len, if_pos h, ← List.map_append]
  rfl
theorem dAddI_k {u w : Wrd} (h : u.length + w.length ≤ 100000) : dAddI (kT u) (kT w) = some (kT (u ++ w)) := by
  show (if (u.map PyData.int).length + (w.map PyData.int).length ≤ 100000 then _ else _) = _
  rw [kT_len, kT_len, if_pos h, ← List.map_append]
  rfl
theorem cutL_map {α β : Type} {f : α → β} {l : List α} {lo hi : Option Int} : cutL (l.map f) lo hi = (cutL l lo hi).map f := by
  unfold cutL
  rw [List.length_map, List.map_take, List.map_drop]
theorem cutL_to {α : Type} {l : List α} {k : Nat} : cutL l none (some (k : Int)) = l.take k := by
  unfold cutL
  rw [HT.sIx_none, HT.sIx_nat, List.drop_zero, Nat.sub_zero]
  by_cases h : k ≤ l.length
  · rw [Nat.min_eq_left h]
  · rw [Nat.min_eq_right (by omega), List.take_of_length_le (Nat.le_refl _), List.take_of_length_le (by omega)]
theorem cutL_from {α : Type} {l : List α} {k : Nat} : cutL l (some (k : Int)) none = l.drop k := by
  unfold cutL
  rw [HT.sIx_none, HT.sIx_nat]
  by_cases h : k ≤ l.length
  · rw [Nat.min_eq_left h, List.take_of_length_le (by rw [List.length_drop]; exact Nat.le_refl _)]
  · rw [Nat.min_eq_right (by omega), List.drop_of_length_le (Nat.le_refl _), List.drop_of_length_le (by omega)]
    simp
theorem dSl_to {w : Wrd} {k : Nat} : dSl (kT w) none (some (k : Int)) = some (kT (w.take k)) := by
  show some (PyData.tuple (cutL (w.map PyData.int) none (some (k : Int)))) = _
  rw [cutL_map, cutL_to]
  rfl
theorem dSl_from {w : Wrd} {k : Nat} : dSl (kT w) (some (k : Int)) none = some (kT (w.drop k)) := by
  show some (PyData.tuple (cutL (w.map PyData.int) (some (k : Int)) none)) = _
  rw [cutL_map, cutL_from]
  rfl
theorem okI_nat {k : Nat} (h : k ≤ 100000) : okI (k : Int) = true := okI_iff.mpr ⟨by omega, by omega⟩
theorem okI_of {k : Int} (h : -1000000 ≤ k) (h' : k ≤ 1000000) : okI k = true := okI_iff.mpr ⟨by omega, by omega⟩
theorem rngD_map {lo : Int} {n : Nat} : rngD lo n = (List.range n).map fun (i : Nat) => PyData.int (lo + (i : Int)) := rfl
theorem boolsOf_map {α : Type} {p : α → Bool} : ∀ l : List α, boolsOf (l.map fun a => PyData.bool (p a)) = some (l.map p)
  | [] => rfl
  | a :: l => by
    show (match boolsOf (l.map fun a => PyData.bool (p a)) with
      | some is => some (p a :: is)
      | none => none) = _
    rw [boolsOf_map l]
    rfl
theorem dAll_map {α : Type} {p : α → Bool} {l : List α} : dAll [.list (l.map fun a => PyData.bool (p a))] = some (.bool (l.all p)) := by
  show (match boolsOf (l.map fun a => PyData.bool (p a)) with
    | some is => some (PyData.bool (is.all id))
    | none => none) = _
  rw [boolsOf_map]
  show some (PyData.bool ((l.map p).all id)) = _
  rw [List.all_map]
  rfl
theorem dAny_map {α : Type} {p : α → Bool} {l : List α} : dAny [.list (l.map fun a => PyData.bool (p a))] = some (.bool (l.any p)) := by
  show (match boolsOf (l.map fun a => PyData.bool (p a)) with
    | some is => some (PyData.bool (is.any id))
    | none => none) = _
  rw [boolsOf_map]
  show some (PyData.bool ((l.map p).any id)) = _
  rw [List.any_map]
  rfl
theorem intsOf_map {α : Type} {p : α → Int} : ∀ l : List α, intsOf (l.map fun a => PyData.int (p a)) = some (l.map p)
  | [] => rfl
  | a :: l => by
    show (match intsOf (l.map fun a => PyData.int (p a)) with
      | some is => some (p a :: is)
      | none => none) = _
    rw [intsOf_map l]
    rfl
theorem dSum_map {α : Type} {p : α → Int} {l : List α} : dSum [.list (l.map fun a => PyData.int (p a))] = some (.int (l.map p).sum) := by
  show (match intsOf (l.map fun a => PyData.int (p a)) with
    | some is => some (PyData.int is.sum)
    | none => none) = _
  rw [intsOf_map]
/-! comprehensions -/
theorem fmapO_map {α β γ : Type} {f : α → Option (Option β)} {i : γ → α} {o : γ → Option β} : ∀ {l : List γ}, (∀ c ∈ l, f (i c) = some (o c)) → fmapO f (l.map i) = some (l.filterMap o)
  | [], _ => rfl
  | c :: l, h => by
    have ih := fmapO_map (l := l) fun d hd => h d (List.mem_cons_of_mem _ hd)
    rw [List.map_cons]
    unfold fmapO
    rw [h c List.mem_cons_self, ih, List.filterMap_cons]
    cases o c <;> rfl
section
variable {γ : Type} {L : FA} {vs : List Nat} {g : D → Env → Option Env} {T : FT} {E : F1} {ρ : Env} {l : List γ} {i : γ → D}
theorem fLc_opt {o : γ → Option D} (hL : L ρ = some (l.map i)) (hlen : l.length ≤ 100000) (h : ∀ c ∈ l, lcTurn vs g T E ρ (i c) = some (o c)) : fLc L vs g T E ρ = some (l.filterMap o) := by
  unfold fLc
  rw [hL]
  show (if (l.map i).length ≤ 100000 then _ else _) = _
  rw [List.length_map, if_pos hlen, fmapO_map h]
theorem fLc_map {o : γ → D} (hL : L ρ = some (l.map i)) (hlen : l.length ≤ 100000) (h : ∀ c ∈ l, lcTurn vs g T E ρ (i c) = some (some (o c))) : fLc L vs g T E ρ = some (l.map o) := by
  rw [fLc_opt hL hlen h, List.filterMap_eq_map']
theorem fLc_filter {o : γ → D} {p : γ → Bool} (hL : L ρ = some (l.map i)) (hlen : l.length ≤ 100000) (h : ∀ c ∈ l, lcTurn vs g T E ρ (i c) = some (if p c = true then some (o c) else none)) : fLc L vs g T E ρ = some ((l.filter p).map o) := by
  rw [fLc_opt hL hlen h]
  congr 1
  clear hL hlen h
  induction l with
  | nil => rfl
  | cons c l ih =>
    rw [List.filterMap_cons, List.filter_cons, ih]
    cases q : p c <;> simp
end

/-! loops -/
theorem loop_inv {γ : Type} {g : D → Env → Option Env} {B : FS} {i : γ → D} {l : List γ} {Inv : List γ → Env → Prop}
    (step : ∀ pre c post ρ, l = pre ++ c :: post → Inv pre ρ → ∃ ρ1 ρ', g (i c) ρ = some ρ1 ∧ (B ρ1 = .nx ρ' ∨ B ρ1 = .ct ρ') ∧ Inv (pre ++ [c]) ρ') {ρ : Env} (h0 : Inv [] ρ) : ∃ ρ', loop g B (l.map i) ρ = .nx ρ' ∧ Inv l ρ' := by
  have : ∀ (post pre : List γ) (ρ : Env), l = pre ++ post → Inv pre ρ → ∃ ρ', loop g B (post.map i) ρ = .nx ρ' ∧ Inv l ρ' := by
    intro post
    induction post with
    | nil =>
      intro pre ρ e h
      rw [List.append_nil] at e
      subst e
      exact ⟨ρ, ev_loop_nil, h⟩
    | cons c post ih =>
      intro pre ρ e h
      obtain ⟨ρ1, ρ', e1, e2, h'⟩ := step pre c post ρ e h
      obtain ⟨ρ2, e3, h2⟩ := ih (pre ++ [c]) ρ' (by rw [e]; simp) h'
      refine ⟨ρ2, ?_, h2⟩
      rw [List.map_cons, ev_loop, e1]
      rcases e2 with e2 | e2
      · simp only [e2]; exact e3
      · simp only [e2]; exact e3
  exact this l [] ρ rfl h0

theorem while_step {T : FT} {B : FS} {k : Nat} {ρ ρ2 : Env} (h : T ρ = some true) (hb : B ρ = .nx ρ2) : whileF T B (k + 1) ρ = whileF T B k ρ2 := by
  rw [ev_while, h]
  simp only [hb]
theorem while_stop {T : FT} {B : FS} {k : Nat} {ρ : Env} (h : T ρ = some false) : whileF T B (k + 1) ρ = .nx ρ := by
  rw [ev_while, h]

/-! ### meet -/
theorem mod_adj {n a b : Int} (h3 : 3 ≤ n) (ha : 0 ≤ a ∧ a < n) (hb : 0 ≤ b ∧ b < n) : ((1 : Int) == (a - b) % n || ((n - 1 == (a - b) % n) || false)) = adj n a b := by
  have e : (a - b) % n = if 0 ≤ a - b then a - b else a - b + n := by
    split
    · exact Int.emod_eq_of_lt (by omega) (by omega)
    · rw [← Int.add_emod_right]
      exact Int.emod_eq_of_lt (by omega) (by omega)
  rw [e, Bool.or_false, Bool.eq_iff_iff, Bool.or_eq_true, beq_iff_eq, beq_iff_eq]
  unfold adj
  rw [decide_eq_true_eq]
  split <;> omega
theorem m_meet {n a b : Int} (h3 : 3 ≤ n) (ha : 0 ≤ a ∧ a < n) (hb : 0 ≤ b ∧ b < n) : F_meet [.int n, .int a, .int b] = some (.bool (adj n a b)) := by
  rw [← mod_adj h3 ha hb]
  simp only [F_meet, G_meet, ev_fBin, ev_fUn, ev_fCons, ev_fApp, ev_fTup, ev_fLst, ev_fOfL, ev_fTest, ev_fAnd, ev_fOr, ev_fNot, ev_fAndV, ev_fOrV, ev_fNotV, ev_fIf, ev_fFrz, ev_fIter, ev_gSeq, ev_gRet, ev_gIf, ev_gSet, ev_gOwn, ev_gAsg, ev_gPar, ev_gParO, ev_gAug, ev_gApp, ev_gExt, ev_gPut, ev_gFor, ev_fSl, ev_fPart, ev_fRepL, ev_fChain, ev_run, ev_fRng1, ev_fRng2, ev_fRng3, ev_fRgL, ev_fRgT, ev_fRg1, ev_fRg2, ev_fSortSet, ev_tFrz, ev_frz_cons, ev_frz_nil, ev_var0, ev_varS, ev_C, ev_nil, ev_yes, ev_noPart, ev_next, ev_break, ev_cont, ev_no, ev_name, ev_tup2, frzC, wipeE, startE, List.length_cons, List.length_nil, List.map_cons, List.map_nil, List.replicate_succ, List.replicate_zero, List.cons_append, List.nil_append, List.getElem?_cons_zero, List.getElem?_cons_succ, List.set_cons_zero, List.set_cons_succ, Option.map_some, Option.map_none, Nat.reduceAdd, Nat.reduceSub, Nat.reduceLeDiff, if_true, ite_true, ite_false, Nat.zero_add, Nat.add_zero, Nat.sub_self, Nat.sub_zero, dSub_ii, dMod_ok (show 0 < n by omega)]
  rfl

/-! ### first_sides -/
theorem inR_getD {n : Int} {w : Wrd} (h : inR n w) {k : Nat} (hk : k < w.length) : 0 ≤ w.getD k 0 ∧ w.getD k 0 < n := by
  rw [List.getD_eq_getElem?_getD, List.getElem?_eq_getElem hk]
  exact h _ (List.getElem_mem hk)
def isFst (n : Int) (w : Wrd) (k : Nat) : Bool := (List.range k).all fun j => adj n (w.getD j 0) (w.getD k 0)
def fsts (n : Int) (w : Wrd) : List Nat := (List.range w.length).filter (isFst n w)
theorem c_first {n : Int} {w : Wrd} {k : Nat} {c2 c4 : Option Cell} (h3 : 3 ≤ n) (hw : inR n w) (hl : w.length ≤ 10000) (hk : k < w.length) :
    C_first_sides_0 [some (.dat (.int n)), some (.dat (kT w)), c2, some (.dat (.int (k : Int))), c4] = some ((List.range k).map fun j => PyData.bool (adj n (w.getD j 0) (w.getD k 0))) := by
  refine fLc_map (l := List.range k) (i := fun j : Nat => PyData.int ((0 : Int) + (j : Int))) ?_ (by rw [List.length_range]; omega) fun j hj => ?_
  · simp only [ev_fBin, ev_fUn, ev_fCons, ev_fApp, ev_fTup, ev_fLst, ev_fOfL, ev_fTest, ev_fAnd, ev_fOr, ev_fNot, ev_fAndV, ev_fOrV, ev_fNotV, ev_fIf, ev_fFrz, ev_fIter, ev_gSeq, ev_gRet, ev_gIf, ev_gSet, ev_gOwn, ev_gAsg, ev_gPar, ev_gParO, ev_gAug, ev_gApp, ev_gExt, ev_gPut, ev_gFor, ev_fSl, ev_fPart, ev_fRepL, ev_fChain, ev_run, ev_fRng1, ev_fRng2, ev_fRng3, ev_fRgL, ev_fRgT, ev_fRg1, ev_fRg2, ev_fSortSet, ev_tFrz, ev_frz_cons, ev_frz_nil, ev_var0, ev_varS, ev_C, ev_nil, ev_yes, ev_noPart, ev_next, ev_break, ev_cont, ev_no, ev_name, ev_tup2, frzC, wipeE, startE, List.length_cons, List.length_nil, List.map_cons, List.map_nil, List.replicate_succ, List.replicate_zero, List.cons_append, List.nil_append, List.getElem?_cons_zero, List.getElem?_cons_succ, List.set_cons_zero, List.set_cons_succ, Option.map_some, Option.map_none, Nat.reduceAdd, Nat.reduceSub, Nat.reduceLeDiff, if_true, ite_true, ite_false, Nat.zero_add, Nat.add_zero, Nat.sub_self, Nat.sub_zero, okI_nat (show k ≤ 100000 by omega), Int.toNat_natCast, rngD_map]
  · have hj' := List.mem_range.mp hj
    simp only [ev_lcTurn, ev_fBin, ev_fUn, ev_fCons, ev_fApp, ev_fTup, ev_fLst, ev_fOfL, ev_fTest, ev_fAnd, ev_fOr, ev_fNot, ev_fAndV, ev_fOrV, ev_fNotV, ev_fIf, ev_fFrz, ev_fIter, ev_gSeq, ev_gRet, ev_gIf, ev_gSet, ev_gOwn, ev_gAsg, ev_gPar, ev_gParO, ev_gAug, ev_gApp, ev_gExt, ev_gPut, ev_gFor, ev_fSl, ev_fPart, ev_fRepL, ev_fChain, ev_run, ev_fRng1, ev_fRng2, ev_fRng3, ev_fRgL, ev_fRgT, ev_fRg1, ev_fRg2, ev_fSortSet, ev_tFrz, ev_frz_cons, ev_frz_nil, ev_var0, ev_varS, ev_C, ev_nil, ev_yes, ev_noPart, ev_next, ev_break, ev_cont, ev_no, ev_name, ev_tup2, frzC, wipeE, startE, List.length_cons, List.length_nil, List.map_cons, List.map_nil, List.replicate_succ, List.replicate_zero, List.cons_append, List.nil_append, List.getElem?_cons_zero, List.getElem?_cons_succ, List.set_cons_zero, List.set_cons_succ, Option.map_some, Option.map_none, Nat.reduceAdd, Nat.reduceSub, Nat.reduceLeDiff, if_true, ite_true, ite_false, Nat.zero_add, Nat.add_zero, Nat.sub_self, Nat.sub_zero, Int.zero_add, dIx_k hk, dIx_k (show j < w.length by omega), m_meet h3 (inR_getD hw (show j < w.length by omega)) (inR_getD hw hk)]
theorem m_first_sides {n : Int} {w : Wrd} (h3 : 3 ≤ n) (hw : inR n w) (hl : w.length ≤ 10000) : F_first_sides [.int n, kT w] = some (.list ((fsts n w).map fun (k : Nat) => PyData.int (k : Int))) := by
  obtain ⟨ρ', e, c, h⟩ := loop_inv (g := sName 3) (B := B_first_sides_0) (i := fun k : Nat => PyData.int ((0 : Int) + (k : Int))) (l := List.range w.length)
    (Inv := fun pre ρ => ∃ c, ρ = [some (.dat (.int n)), some (.dat (kT w)), some (.own ((pre.filter (isFst n w)).map fun (k : Nat) => PyData.int (k : Int))), c, none])
    (fun pre k post ρ hp ⟨c, hρ⟩ => by
      have hlen := congrArg List.length hp
      rw [List.length_range, List.length_append, List.length_cons] at hlen
      have hk : k < w.length := List.mem_range.mp (by rw [hp]; simp)
      have hf : (pre.filter (isFst n w)).length < 100000 := Nat.lt_of_le_of_lt (List.length_filter_le _ _) (by omega)
      subst hρ
      refine ⟨_, _, rfl, .inl ?_, some (.dat (.int (k : Int))), rfl⟩
      simp only [B_first_sides_0, ev_fBin, ev_fUn, ev_fCons, ev_fApp, ev_fTup, ev_fLst, ev_fOfL, ev_fTest, ev_fAnd, ev_fOr, ev_fNot, ev_fAndV, ev_fOrV, ev_fNotV, ev_fIf, ev_fFrz, ev_fIter, ev_gSeq, ev_gRet, ev_gIf, ev_gSet, ev_gOwn, ev_gAsg, ev_gPar, ev_gParO, ev_gAug, ev_gApp, ev_gExt, ev_gPut, ev_gFor, ev_fSl, ev_fPart, ev_fRepL, ev_fChain, ev_run, ev_fRng1, ev_fRng2, ev_fRng3, ev_fRgL, ev_fRgT, ev_fRg1, ev_fRg2, ev_fSortSet, ev_tFrz, ev_frz_cons, ev_frz_nil, ev_var0, ev_varS, ev_C, ev_nil, ev_yes, ev_noPart, ev_next, ev_break, ev_cont, ev_no, ev_name, ev_tup2, frzC, wipeE, startE, List.length_cons, List.length_nil, List.map_cons, List.map_nil, List.replicate_succ, List.replicate_zero, List.cons_append, List.nil_append, List.getElem?_cons_zero, List.getElem?_cons_succ, List.set_cons_zero, List.set_cons_succ, Option.map_some, Option.map_none, Nat.reduceAdd, Nat.reduceSub, Nat.reduceLeDiff, if_true, ite_true, ite_false, Nat.zero_add, Nat.add_zero, Nat.sub_self, Nat.sub_zero, Int.zero_add, c_first h3 hw hl hk, dAll_map]
      rw [List.filter_append, List.map_append, List.filter_cons]
      rw [show ((List.range k).all fun a => adj n (w.getD a 0) (w.getD k 0)) = isFst n w k from rfl]
      cases q : isFst n w k with
      | false => simp
      | true => simp [hf])
    (ρ := [some (.dat (.int n)), some (.dat (kT w)), some (.own []), none, none]) ⟨none, rfl⟩
  subst h
  simp only [F_first_sides, G_first_sides, ev_fBin, ev_fUn, ev_fCons, ev_fApp, ev_fTup, ev_fLst, ev_fOfL, ev_fTest, ev_fAnd, ev_fOr, ev_fNot, ev_fAndV, ev_fOrV, ev_fNotV, ev_fIf, ev_fFrz, ev_fIter, ev_gSeq, ev_gRet, ev_gIf, ev_gSet, ev_gOwn, ev_gAsg, ev_gPar, ev_gParO, ev_gAug, ev_gApp, ev_gExt, ev_gPut, ev_gFor, ev_fSl, ev_fPart, ev_fRepL, ev_fChain, ev_run, ev_fRng1, ev_fRng2, ev_fRng3, ev_fRgL, ev_fRgT, ev_fRg1, ev_fRg2, ev_fSortSet, ev_tFrz, ev_frz_cons, ev_frz_nil, ev_var0, ev_varS, ev_C, ev_nil, ev_yes, ev_noPart, ev_next, ev_break, ev_cont, ev_no, ev_name, ev_tup2, frzC, wipeE, startE, List.length_cons, List.length_nil, List.map_cons, List.map_nil, List.replicate_succ, List.replicate_zero, List.cons_append, List.nil_append, List.getElem?_cons_zero, List.getElem?_cons_succ, List.set_cons_zero, List.set_cons_succ, Option.map_some, Option.map_none, Nat.reduceAdd, Nat.reduceSub, Nat.reduceLeDiff, if_true, ite_true, ite_false, Nat.zero_add, Nat.add_zero, Nat.sub_self, Nat.sub_zero, dLen_k, okI_nat (show w.length ≤ 100000 by omega), Int.toNat_natCast, Nat.zero_le, rngD_map, e]
  rfl

/-! ### in_form -/
theorem front_idx {n a : Int} {w : Wrd} (h : front n a w = true) : ∃ k : Nat, k ∈ fsts n w ∧ w.getD k 0 = a ∧ w.take k ++ w.drop (k + 1) = w.erase a := by
  obtain ⟨y, z, e, hy, he⟩ := front_iff.mp h
  have hk : w.getD y.length 0 = a := by
    rw [e, List.getD_eq_getElem?_getD, List.getElem?_append_right (Nat.le_refl _), Nat.sub_self]
    rfl
  refine ⟨y.length, List.mem_filter.mpr ⟨List.mem_range.mpr (by rw [e]; simp), List.all_eq_true.mpr fun j hj => ?_⟩, hk, ?_⟩
  · have hj' := List.mem_range.mp hj
    rw [hk]
    have e2 : w.getD j 0 = y[j] := by
      rw [e, List.getD_eq_getElem?_getD, List.getElem?_append_left hj', List.getElem?_eq_getElem hj']
      rfl
    rw [e2]
    exact (hy _ (List.getElem_mem hj')).2
  · rw [he, e, List.take_left', List.drop_append, List.drop_of_length_le (by omega)]
    · simp
    · rfl
theorem fst_front {n : Int} {w : Wrd} {k : Nat} (h3 : 3 ≤ n) (h : k ∈ fsts n w) : k < w.length ∧ front n (w.getD k 0) w = true ∧ w.take k ++ w.drop (k + 1) = w.erase (w.getD k 0) := by
  obtain ⟨h1, h2⟩ := List.mem_filter.mp h
  have hk := List.mem_range.mp h1
  have e : w = w.take k ++ w.getD k 0 :: w.drop (k + 1) := by
    conv => lhs; rw [← List.take_append_drop k w]
    rw [List.drop_eq_getElem_cons hk, List.getD_eq_getElem?_getD, List.getElem?_eq_getElem hk]
    rfl
  have hy : ∀ b ∈ w.take k, adj n b (w.getD k 0) = true := fun b hb => by
    obtain ⟨j, hj, rfl⟩ := List.mem_iff_getElem.mp hb
    rw [List.length_take] at hj
    have := List.all_eq_true.mp h2 j (List.mem_range.mpr (by omega))
    rw [List.getElem_take]
    rw [List.getD_eq_getElem?_getD, List.getElem?_eq_getElem (by omega)] at this
    exact this
  refine ⟨hk, ?_, ?_⟩
  · conv => lhs; arg 3; rw [e]
    exact front_of hy
  · have hn : w.getD k 0 ∉ w.take k := fun q => by
      have := hy _ q
      rw [adj_self h3] at this
      cases this
    conv => rhs; arg 1; rw [e]
    rw [List.erase_append_right _ hn, List.erase_cons_head]
def pr (p : Int × Nat) : D := .tuple [.int p.1, .int (p.2 : Int)]
open PySem.W (dataLt minD maxD alike) in
theorem minD_pr : ∀ (l : List (Int × Nat)) (p : Int × Nat), ∃ m, m ∈ p :: l ∧ minD (pr p) (l.map pr) = pr m ∧ ∀ q ∈ p :: l, m.1 < q.1 ∨ (m.1 = q.1 ∧ m.2 ≤ q.2)
  | [], p => ⟨p, List.mem_cons_self, rfl, fun q hq => by
      rw [List.mem_singleton.mp hq]; exact .inr ⟨rfl, Nat.le_refl _⟩⟩
  | q :: l, p => by
    have e : (if dataLt (pr q) (pr p) = true then pr q else pr p) = pr (if q.1 < p.1 ∨ (q.1 = p.1 ∧ q.2 < p.2) then q else p) := by
      unfold pr
      rw [PySem.W.dataLt_ii]
      by_cases h : q.1 < p.1 ∨ (q.1 = p.1 ∧ q.2 < p.2)
      · rw [if_pos h, if_pos (decide_eq_true (by omega))]
      · rw [if_neg h, if_neg (by rw [decide_eq_true_eq]; omega)]
    obtain ⟨m, h1, h2, h4⟩ := minD_pr l (if q.1 < p.1 ∨ (q.1 = p.1 ∧ q.2 < p.2) then q else p)
    refine ⟨m, ?_, ?_, fun r hr => ?_⟩
    · rcases List.mem_cons.mp h1 with z | z
      · rw [z]; split <;> simp
      · simp [z]
    · show List.foldl _ (if dataLt (pr q) (pr p) = true then pr q else pr p) (l.map pr) = _
      rw [e]
      exact h2
    · have h5 := h4 _ List.mem_cons_self
      rcases List.mem_cons.mp hr with z | z
      · subst z
        split at h5 <;> omega
      · rcases List.mem_cons.mp z with z | z
        · subst z
          split at h5 <;> omega
        · exact h4 r (List.mem_cons_of_mem _ z)
open PySem.W (alike) in
theorem okBest_pr {l : List (Int × Nat)} : okBest (l.map pr) = true := by
  unfold okBest
  rw [Bool.and_eq_true, Bool.and_eq_true, decide_eq_true_eq]
  refine ⟨⟨List.all_eq_true.mpr fun a ha => List.all_eq_true.mpr fun b hb => ?_, List.all_eq_true.mpr fun a ha => ?_⟩, ?_⟩
  · obtain ⟨p, _, rfl⟩ := List.mem_map.mp ha
    obtain ⟨q, _, rfl⟩ := List.mem_map.mp hb
    simp [pr, alike, PySem.W.alikeAll]
  · obtain ⟨p, _, rfl⟩ := List.mem_map.mp ha
    rfl
  · have : ∀ l : List (Int × Nat), PyData.depthAll (l.map pr) ≤ 1 := by
      intro l
      induction l with
      | nil => simp [PyData.depthAll]
      | cons p l ih =>
        rw [List.map_cons]
        unfold PyData.depthAll
        have : PyData.depth (pr p) = 1 := rfl
        omega
    have := this l
    omega
theorem dMin_pr {p : Int × Nat} {l : List (Int × Nat)} : dMin [.list ((p :: l).map pr)] = some (PySem.W.minD (pr p) (l.map pr)) := by
  show (if okBest ((p :: l).map pr) = true then _ else _) = _
  rw [if_pos okBest_pr]
theorem least_fst {n : Int} {w : Wrd} (h3 : 3 ≤ n) (h : w ≠ []) : ∃ k : Nat, dMin [.list ((fsts n w).map fun k => pr (w.getD k 0, k))] = some (pr (pick n w, k)) ∧ k < w.length ∧ w.getD k 0 = pick n w ∧ w.take k ++ w.drop (k + 1) = w.erase (pick n w) := by
  obtain ⟨k0, m0, _⟩ := front_idx (pick_spec (n := n) h).1
  have e : ((fsts n w).map fun k => pr (w.getD k 0, k)) = ((fsts n w).map fun k => (w.getD k 0, k)).map pr := by rw [List.map_map]; rfl
  rw [e]
  cases q : (fsts n w).map fun k => (w.getD k 0, k) with
  | nil =>
    rw [List.map_eq_nil_iff] at q
    rw [q] at m0
    cases m0
  | cons p l =>
    obtain ⟨m, h1, h2, h4⟩ := minD_pr l p
    rw [dMin_pr, h2]
    rw [← q] at h1 h4
    obtain ⟨k, hk, rfl⟩ := List.mem_map.mp h1
    obtain ⟨f1, f2, f3⟩ := fst_front h3 hk
    have ep : pick n w = w.getD k 0 := pick_eq h f2 fun b hb => by
      obtain ⟨j, j1, j2, _⟩ := front_idx hb
      have := h4 _ (List.mem_map.mpr ⟨j, j1, rfl⟩)
      rw [j2] at this
      have t : (w.getD k 0, k).1 = w.getD k 0 := rfl
      have t2 : (b, j).1 = b := rfl
      omega
    exact ⟨k, by rw [ep], f1, ep.symm, by rw [ep]; exact f3⟩
theorem c_form {n : Int} {w : Wrd} {c2 c3 c4 : Option Cell} (h3 : 3 ≤ n) (hw : inR n w) (hl : w.length ≤ 10000) :
    C_in_form_0 [some (.dat (.int n)), some (.dat (kT w)), c2, c3, c4] = some ((fsts n w).map fun k => pr (w.getD k 0, k)) := by
  refine fLc_map (l := fsts n w) (i := fun k : Nat => PyData.int (k : Int)) ?_ ?_ fun k hk => ?_
  · simp only [ev_fBin, ev_fUn, ev_fCons, ev_fApp, ev_fTup, ev_fLst, ev_fOfL, ev_fTest, ev_fAnd, ev_fOr, ev_fNot, ev_fAndV, ev_fOrV, ev_fNotV, ev_fIf, ev_fFrz, ev_fIter, ev_gSeq, ev_gRet, ev_gIf, ev_gSet, ev_gOwn, ev_gAsg, ev_gPar, ev_gParO, ev_gAug, ev_gApp, ev_gExt, ev_gPut, ev_gFor, ev_fSl, ev_fPart, ev_fRepL, ev_fChain, ev_run, ev_fRng1, ev_fRng2, ev_fRng3, ev_fRgL, ev_fRgT, ev_fRg1, ev_fRg2, ev_fSortSet, ev_tFrz, ev_frz_cons, ev_frz_nil, ev_var0, ev_varS, ev_C, ev_nil, ev_yes, ev_noPart, ev_next, ev_break, ev_cont, ev_no, ev_name, ev_tup2, frzC, wipeE, startE, List.length_cons, List.length_nil, List.map_cons, List.map_nil, List.replicate_succ, List.replicate_zero, List.cons_append, List.nil_append, List.getElem?_cons_zero, List.getElem?_cons_succ, List.set_cons_zero, List.set_cons_succ, Option.map_some, Option.map_none, Nat.reduceAdd, Nat.reduceSub, Nat.reduceLeDiff, if_true, ite_true, ite_false, Nat.zero_add, Nat.add_zero, Nat.sub_self, Nat.sub_zero, m_first_sides h3 hw hl, items]
  · have := List.length_filter_le (isFst n w) (List.range w.length)
    rw [List.length_range] at this
    exact Nat.le_trans this (by omega)
  · have hk' := (fst_front h3 hk).1
    simp only [ev_lcTurn, ev_fBin, ev_fUn, ev_fCons, ev_fApp, ev_fTup, ev_fLst, ev_fOfL, ev_fTest, ev_fAnd, ev_fOr, ev_fNot, ev_fAndV, ev_fOrV, ev_fNotV, ev_fIf, ev_fFrz, ev_fIter, ev_gSeq, ev_gRet, ev_gIf, ev_gSet, ev_gOwn, ev_gAsg, ev_gPar, ev_gParO, ev_gAug, ev_gApp, ev_gExt, ev_gPut, ev_gFor, ev_fSl, ev_fPart, ev_fRepL, ev_fChain, ev_run, ev_fRng1, ev_fRng2, ev_fRng3, ev_fRgL, ev_fRgT, ev_fRg1, ev_fRg2, ev_fSortSet, ev_tFrz, ev_frz_cons, ev_frz_nil, ev_var0, ev_varS, ev_C, ev_nil, ev_yes, ev_noPart, ev_next, ev_break, ev_cont, ev_no, ev_name, ev_tup2, frzC, wipeE, startE, List.length_cons, List.length_nil, List.map_cons, List.map_nil, List.replicate_succ, List.replicate_zero, List.cons_append, List.nil_append, List.getElem?_cons_zero, List.getElem?_cons_succ, List.set_cons_zero, List.set_cons_succ, Option.map_some, Option.map_none, Nat.reduceAdd, Nat.reduceSub, Nat.reduceLeDiff, if_true, ite_true, ite_false, Nat.zero_add, Nat.add_zero, Nat.sub_self, Nat.sub_zero, dIx_k hk']
    rfl
theorem b_form {n : Int} {w f : Wrd} {c3 c4 : Option Cell} (h3 : 3 ≤ n) (hw : inR n w) (hl : w.length ≤ 10000) (hf : f.length ≤ 10000) (h : w ≠ []) :
    ∃ c3', B_in_form_0 [some (.dat (.int n)), some (.dat (kT w)), some (.dat (kT f)), c3, c4] = .nx [some (.dat (.int n)), some (.dat (kT (w.erase (pick n w)))), some (.dat (kT (f ++ [pick n w]))), c3', c4] := by
  obtain ⟨k, e1, e2, e3, e4⟩ := least_fst h3 h
  refine ⟨some (.dat (.int (k : Int))), ?_⟩
  have t1 : dIx (pr (pick n w, k)) (.int 1) = some (.int (k : Int)) := rfl
  have t3 : (PyData.tuple [PyData.int (pick n w)]) = kT [pick n w] := rfl
  have t4 : ((k : Int) + 1) = ((k + 1 : Nat) : Int) := by omega
  simp only [B_in_form_0, ev_fBin, ev_fUn, ev_fCons, ev_fApp, ev_fTup, ev_fLst, ev_fOfL, ev_fTest, ev_fAnd, ev_fOr, ev_fNot, ev_fAndV, ev_fOrV, ev_fNotV, ev_fIf, ev_fFrz, ev_fIter, ev_gSeq, ev_gRet, ev_gIf, ev_gSet, ev_gOwn, ev_gAsg, ev_gPar, ev_gParO, ev_gAug, ev_gApp, ev_gExt, ev_gPut, ev_gFor, ev_fSl, ev_fPart, ev_fRepL, ev_fChain, ev_run, ev_fRng1, ev_fRng2, ev_fRng3, ev_fRgL, ev_fRgT, ev_fRg1, ev_fRg2, ev_fSortSet, ev_tFrz, ev_frz_cons, ev_frz_nil, ev_var0, ev_varS, ev_C, ev_nil, ev_yes, ev_noPart, ev_next, ev_break, ev_cont, ev_no, ev_name, ev_tup2, frzC, wipeE, startE, List.length_cons, List.length_nil, List.map_cons, List.map_nil, List.replicate_succ, List.replicate_zero, List.cons_append, List.nil_append, List.getElem?_cons_zero, List.getElem?_cons_succ, List.set_cons_zero, List.set_cons_succ, Option.map_some, Option.map_none, Nat.reduceAdd, Nat.reduceSub, Nat.reduceLeDiff, if_true, ite_true, ite_false, Nat.zero_add, Nat.add_zero, Nat.sub_self, Nat.sub_zero, c_form h3 hw hl, e1, t1, dIx_k e2, e3, dAdd_ii, t3, t4, dSl_to, dSl_from, dAddI_k (show f.length + [pick n w].length ≤ 100000 by simp; omega), dAdd_k (show (w.take k).length + (w.drop (k + 1)).length ≤ 100000 by rw [List.length_take, List.length_drop]; omega), e4]
theorem t_form {n : Int} {w f : Wrd} {c3 c4 : Option Cell} : fTest (fBin dGt (fApp dLen (fCons (fVar 1) fNil)) (fC (.int 0))) [some (.dat (.int n)), some (.dat (kT w)), some (.dat (kT f)), c3, c4] = some (decide ((0 : Int) < (w.length : Int))) := by
  simp only [ev_fBin, ev_fUn, ev_fCons, ev_fApp, ev_fTup, ev_fLst, ev_fOfL, ev_fTest, ev_fAnd, ev_fOr, ev_fNot, ev_fAndV, ev_fOrV, ev_fNotV, ev_fIf, ev_fFrz, ev_fIter, ev_gSeq, ev_gRet, ev_gIf, ev_gSet, ev_gOwn, ev_gAsg, ev_gPar, ev_gParO, ev_gAug, ev_gApp, ev_gExt, ev_gPut, ev_gFor, ev_fSl, ev_fPart, ev_fRepL, ev_fChain, ev_run, ev_fRng1, ev_fRng2, ev_fRng3, ev_fRgL, ev_fRgT, ev_fRg1, ev_fRg2, ev_fSortSet, ev_tFrz, ev_frz_cons, ev_frz_nil, ev_var0, ev_varS, ev_C, ev_nil, ev_yes, ev_noPart, ev_next, ev_break, ev_cont, ev_no, ev_name, ev_tup2, frzC, wipeE, startE, List.length_cons, List.length_nil, List.map_cons, List.map_nil, List.replicate_succ, List.replicate_zero, List.cons_append, List.nil_append, List.getElem?_cons_zero, List.getElem?_cons_succ, List.set_cons_zero, List.set_cons_succ, Option.map_some, Option.map_none, Nat.reduceAdd, Nat.reduceSub, Nat.reduceLeDiff, if_true, ite_true, ite_false, Nat.zero_add, Nat.add_zero, Nat.sub_self, Nat.sub_zero, dLen_k, dGt_ii]
theorem l_form {n : Int} {c4 : Option Cell} (h3 : 3 ≤ n) : ∀ (fuel : Nat) (w f : Wrd) (c3 : Option Cell), inR n w → w.length + f.length ≤ 10000 → w.length < fuel →
    ∃ c3', whileF (fTest (fBin dGt (fApp dLen (fCons (fVar 1) fNil)) (fC (.int 0)))) B_in_form_0 fuel [some (.dat (.int n)), some (.dat (kT w)), some (.dat (kT f)), c3, c4] = .nx [some (.dat (.int n)), some (.dat (kT [])), some (.dat (kT (f ++ form n w))), c3', c4] := by
  intro fuel
  induction fuel with
  | zero =>
    intro w f c3 hw hl hk
    exact absurd hk (Nat.not_lt_zero _)
  | succ fuel ih =>
    intro w f c3 hw hl hk
    by_cases h : w = []
    · subst h
      refine ⟨c3, ?_⟩
      rw [while_stop t_form, form_nil, List.append_nil]
    · obtain ⟨c, e⟩ := b_form (f := f) (c3 := c3) (c4 := c4) h3 hw (by omega) (by omega) h
      have hlen := front_len (pick_spec (n := n) h).1
      have hpos : decide ((0 : Int) < (w.length : Int)) = true := decide_eq_true (by omega)
      obtain ⟨c', e'⟩ := ih (w.erase (pick n w)) (f ++ [pick n w]) c (inR_erase hw) (by rw [List.length_append, List.length_singleton]; omega) (by omega)
      refine ⟨c', ?_⟩
      have ea : f ++ pick n w :: form n (w.erase (pick n w)) = f ++ [pick n w] ++ form n (w.erase (pick n w)) := by simp
      rw [while_step (t_form.trans (congrArg some hpos)) e, form_cons h, ea]
      exact e'
theorem m_in_form {n : Int} {w : Wrd} (h3 : 3 ≤ n) (hw : inR n w) (hl : w.length ≤ 10000) : F_in_form [.int n, kT w] = some (kT (form n w)) := by
  obtain ⟨c, e⟩ := l_form (c4 := none) h3 100000 w [] none hw (by simp; exact hl) (by omega)
  have t : PyData.tuple [] = kT [] := rfl
  simp only [F_in_form, G_in_form, ev_fBin, ev_fUn, ev_fCons, ev_fApp, ev_fTup, ev_fLst, ev_fOfL, ev_fTest, ev_fAnd, ev_fOr, ev_fNot, ev_fAndV, ev_fOrV, ev_fNotV, ev_fIf, ev_fFrz, ev_fIter, ev_gSeq, ev_gRet, ev_gIf, ev_gSet, ev_gOwn, ev_gAsg, ev_gPar, ev_gParO, ev_gAug, ev_gApp, ev_gExt, ev_gPut, ev_gFor, ev_fSl, ev_fPart, ev_fRepL, ev_fChain, ev_run, ev_fRng1, ev_fRng2, ev_fRng3, ev_fRgL, ev_fRgT, ev_fRg1, ev_fRg2, ev_fSortSet, ev_tFrz, ev_frz_cons, ev_frz_nil, ev_var0, ev_varS, ev_C, ev_nil, ev_yes, ev_noPart, ev_next, ev_break, ev_cont, ev_no, ev_name, ev_tup2, frzC, wipeE, startE, List.length_cons, List.length_nil, List.map_cons, List.map_nil, List.replicate_succ, List.replicate_zero, List.cons_append, List.nil_append, List.getElem?_cons_zero, List.getElem?_cons_succ, List.set_cons_zero, List.set_cons_succ, Option.map_some, Option.map_none, Nat.reduceAdd, Nat.reduceSub, Nat.reduceLeDiff, if_true, ite_true, ite_false, Nat.zero_add, Nat.add_zero, Nat.sub_self, Nat.sub_zero, Nat.zero_le, t, e]
end Wd

set_option Elab.async false
set_option linter.all false
set_option maxRecDepth 100000
set_option maxHeartbeats 4000000
set_option autoImplicit false
/-! crossed, times, back -/
namespace Wd
open PySem PyProof.Rows L2 Mt
theorem front_skip {n a : Int} {w : Wrd} : ∀ {y : Wrd}, (∀ b ∈ y, b ≠ a ∧ adj n b a = true) → front n a (y ++ w) = front n a w
  | [], _ => rfl
  | b :: y, h => by
    have h1 := h b List.mem_cons_self
    show (if b = a then true else adj n b a && front n a (y ++ w)) = _
    rw [if_neg h1.1, h1.2, Bool.true_and]
    exact front_skip fun c hc => h c (List.mem_cons_of_mem _ hc)
theorem loop_rt {g : D → Env → Option Env} {B : FS} {d : D} {ds : List D} {ρ ρ1 : Env} {r : D} (h : g d ρ = some ρ1) (hb : B ρ1 = .rt r) : loop g B (d :: ds) ρ = .rt r := by
  rw [ev_loop, h]
  simp only [hb]
theorem loop_bk {g : D → Env → Option Env} {B : FS} {d : D} {ds : List D} {ρ ρ1 ρ2 : Env} (h : g d ρ = some ρ1) (hb : B ρ1 = .bk ρ2) : loop g B (d :: ds) ρ = .nx ρ2 := by
  rw [ev_loop, h]
  simp only [hb]
theorem loop_go {g : D → Env → Option Env} {B : FS} {d : D} {ds : List D} {ρ ρ1 ρ2 : Env} (h : g d ρ = some ρ1) (hb : B ρ1 = .nx ρ2) : loop g B (d :: ds) ρ = loop g B ds ρ2 := by
  rw [ev_loop, h]
  simp only [hb]
theorem loop_ct {g : D → Env → Option Env} {B : FS} {d : D} {ds : List D} {ρ ρ1 ρ2 : Env} (h : g d ρ = some ρ1) (hb : B ρ1 = .ct ρ2) : loop g B (d :: ds) ρ = loop g B ds ρ2 := by
  rw [ev_loop, h]
  simp only [hb]
theorem dwnD_succ {k : Nat} : dwnD (k : Int) (k + 1) = PyData.int (k : Int) :: dwnD ((k : Int) - 1) k := by
  unfold dwnD
  rw [List.range_succ_eq_map, List.map_cons, List.map_map]
  congr 1
  apply List.map_congr_left
  intro i _
  show PyData.int ((k : Int) - ((i + 1 : Nat) : Int)) = PyData.int ((k : Int) - 1 - (i : Int))
  congr 1
  omega
theorem b_crossed {n s : Int} {c : Wrd} {k : Nat} (h3 : 3 ≤ n) (hc : inR n c) (hs : 0 ≤ s ∧ s < n) (hl : c.length ≤ 5000) (hk : k < c.length) :
    B_crossed_0 [some (.dat (.int n)), some (.dat (kT c)), some (.dat (.int s)), some (.dat (.int (k : Int)))] =
      if c.getD k 0 = s then .rt (kT (form n (c.take k ++ c.drop (k + 1)))) else if adj n (c.getD k 0) s = true then .nx [some (.dat (.int n)), some (.dat (kT c)), some (.dat (.int s)), some (.dat (.int (k : Int)))] else .bk [some (.dat (.int n)), some (.dat (kT c)), some (.dat (.int s)), some (.dat (.int (k : Int)))] := by
  have t4 : ((k : Int) + 1) = ((k + 1 : Nat) : Int) := by omega
  have hw : inR n (c.take k ++ c.drop (k + 1)) := inR_append (fun b hb => hc b (List.mem_of_mem_take hb)) (fun b hb => hc b (List.mem_of_mem_drop hb))
  have hlen : (c.take k).length + (c.drop (k + 1)).length ≤ 5000 := by rw [List.length_take, List.length_drop]; omega
  have hf := m_in_form h3 hw (by rw [List.length_append]; omega)
  by_cases h1 : c.getD k 0 = s
  · have q : (c.getD k 0 == s) = true := by simpa using h1
    rw [if_pos h1]
    simp only [B_crossed_0, ev_fBin, ev_fUn, ev_fCons, ev_fApp, ev_fTup, ev_fLst, ev_fOfL, ev_fTest, ev_fAnd, ev_fOr, ev_fNot, ev_fAndV, ev_fOrV, ev_fNotV, ev_fIf, ev_fFrz, ev_fIter, ev_gSeq, ev_gRet, ev_gIf, ev_gSet, ev_gOwn, ev_gAsg, ev_gPar, ev_gParO, ev_gAug, ev_gApp, ev_gExt, ev_gPut, ev_gFor, ev_fSl, ev_fPart, ev_fRepL, ev_fChain, ev_run, ev_fRng1, ev_fRng2, ev_fRng3, ev_fRgL, ev_fRgT, ev_fRg1, ev_fRg2, ev_fSortSet, ev_tFrz, ev_frz_cons, ev_frz_nil, ev_var0, ev_varS, ev_C, ev_nil, ev_yes, ev_noPart, ev_next, ev_break, ev_cont, ev_no, ev_name, ev_tup2, frzC, wipeE, startE, List.length_cons, List.length_nil, List.map_cons, List.map_nil, List.replicate_succ, List.replicate_zero, List.cons_append, List.nil_append, List.getElem?_cons_zero, List.getElem?_cons_succ, List.set_cons_zero, List.set_cons_succ, Option.map_some, Option.map_none, Nat.reduceAdd, Nat.reduceSub, Nat.reduceLeDiff, if_true, ite_true, ite_false, Nat.zero_add, Nat.add_zero, Nat.sub_self, Nat.sub_zero, dIx_k hk, dEq_ii, q, dAdd_ii, t4, dSl_to, dSl_from, dAdd_k (show (c.take k).length + (c.drop (k + 1)).length ≤ 100000 by omega), hf]
  · have q : (c.getD k 0 == s) = false := by simpa using h1
    rw [if_neg h1]
    simp only [B_crossed_0, ev_fBin, ev_fUn, ev_fCons, ev_fApp, ev_fTup, ev_fLst, ev_fOfL, ev_fTest, ev_fAnd, ev_fOr, ev_fNot, ev_fAndV, ev_fOrV, ev_fNotV, ev_fIf, ev_fFrz, ev_fIter, ev_gSeq, ev_gRet, ev_gIf, ev_gSet, ev_gOwn, ev_gAsg, ev_gPar, ev_gParO, ev_gAug, ev_gApp, ev_gExt, ev_gPut, ev_gFor, ev_fSl, ev_fPart, ev_fRepL, ev_fChain, ev_run, ev_fRng1, ev_fRng2, ev_fRng3, ev_fRgL, ev_fRgT, ev_fRg1, ev_fRg2, ev_fSortSet, ev_tFrz, ev_frz_cons, ev_frz_nil, ev_var0, ev_varS, ev_C, ev_nil, ev_yes, ev_noPart, ev_next, ev_break, ev_cont, ev_no, ev_name, ev_tup2, frzC, wipeE, startE, List.length_cons, List.length_nil, List.map_cons, List.map_nil, List.replicate_succ, List.replicate_zero, List.cons_append, List.nil_append, List.getElem?_cons_zero, List.getElem?_cons_succ, List.set_cons_zero, List.set_cons_succ, Option.map_some, Option.map_none, Nat.reduceAdd, Nat.reduceSub, Nat.reduceLeDiff, if_true, ite_true, ite_false, Nat.zero_add, Nat.add_zero, Nat.sub_self, Nat.sub_zero, dIx_k hk, dEq_ii, q, m_meet h3 (inR_getD hc hk) hs]
    cases q2 : adj n (c.getD k 0) s <;> rfl
theorem l_crossed {n s : Int} {c : Wrd} (h3 : 3 ≤ n) (hc : inR n c) (hs : 0 ≤ s ∧ s < n) (hl : c.length ≤ 5000) : ∀ (m : Nat) (c3 : Option Cell), m ≤ c.length → (∀ b ∈ c.drop m, b ≠ s ∧ adj n b s = true) →
    (front n s c.reverse = true ∧ loop (sName 3) B_crossed_0 (dwnD ((m : Int) - 1) m) [some (.dat (.int n)), some (.dat (kT c)), some (.dat (.int s)), c3] = .rt (kT (form n (c.reverse.erase s).reverse))) ∨
    (front n s c.reverse = false ∧ ∃ c3', loop (sName 3) B_crossed_0 (dwnD ((m : Int) - 1) m) [some (.dat (.int n)), some (.dat (kT c)), some (.dat (.int s)), c3] = .nx [some (.dat (.int n)), some (.dat (kT c)), some (.dat (.int s)), c3']) := by
  intro m
  induction m with
  | zero =>
    intro c3 hm hz
    refine .inr ⟨?_, c3, ev_loop_nil⟩
    have e := front_skip (n := n) (a := s) (w := []) (y := c.reverse) fun b hb => hz b (List.mem_reverse.mp hb)
    rw [List.append_nil] at e
    exact e
  | succ k ih =>
    intro c3 hm hz
    have hk : k < c.length := by omega
    have hb := b_crossed h3 hc hs hl hk
    have ed : c.drop k = c.getD k 0 :: c.drop (k + 1) := by
      rw [List.drop_eq_getElem_cons hk, List.getD_eq_getElem?_getD, List.getElem?_eq_getElem hk]
      rfl
    have er : c.reverse = (c.drop (k + 1)).reverse ++ c.getD k 0 :: (c.take k).reverse := by
      conv => lhs; rw [← List.take_append_drop k c]
      rw [List.reverse_append, ed, List.reverse_cons]
      simp
    have hz' : ∀ b ∈ (c.drop (k + 1)).reverse, b ≠ s ∧ adj n b s = true := fun b hb => hz b (List.mem_reverse.mp hb)
    rw [show (((k + 1 : Nat) : Int) - 1) = (k : Int) by omega, dwnD_succ]
    by_cases h1 : c.getD k 0 = s
    · left
      rw [if_pos h1] at hb
      refine ⟨?_, ?_⟩
      · rw [er, front_skip hz', h1]
        exact front_head
      · have e2 : (c.reverse.erase s).reverse = c.take k ++ c.drop (k + 1) := by
          have hn : s ∉ (c.drop (k + 1)).reverse := fun q => (hz' s q).1 rfl
          rw [er, h1, List.erase_append_right _ hn, List.erase_cons_head]
          simp
        rw [e2]
        exact loop_rt rfl hb
    · rw [if_neg h1] at hb
      by_cases h2 : adj n (c.getD k 0) s = true
      · rw [if_pos h2] at hb
        have hz2 : ∀ b ∈ c.drop k, b ≠ s ∧ adj n b s = true := fun b hb => by
          rw [ed] at hb
          rcases List.mem_cons.mp hb with q | q
          · subst q; exact ⟨h1, h2⟩
          · exact hz b q
        rcases ih (some (.dat (.int (k : Int)))) (by omega) hz2 with ⟨f, e⟩ | ⟨f, c3', e⟩
        · exact .inl ⟨f, (loop_go rfl hb).trans e⟩
        · exact .inr ⟨f, c3', (loop_go rfl hb).trans e⟩
      · rw [if_neg h2] at hb
        right
        refine ⟨?_, _, loop_bk rfl hb⟩
        rw [er, front_skip hz']
        show (if c.getD k 0 = s then true else adj n (c.getD k 0) s && _) = false
        rw [if_neg h1]
        cases q : adj n (c.getD k 0) s with
        | true => exact absurd q h2
        | false => rfl
theorem m_crossed {n s : Int} {c : Wrd} (h3 : 3 ≤ n) (hc : inR n c) (hs : 0 ≤ s ∧ s < n) (hl : c.length ≤ 5000) : F_crossed [.int n, kT c, .int s] = some (kT (crs n c s)) := by
  have hz : ∀ b ∈ c.drop c.length, b ≠ s ∧ adj n b s = true := fun b hb => by rw [List.drop_length] at hb; cases hb
  have h := l_crossed h3 hc hs hl c.length none (Nat.le_refl _) hz
  have e1 : ((c.length : Int) - 1 - -1).toNat = c.length := by omega
  have k1 : okI ((c.length : Int) - 1) = true := okI_of (by omega) (by omega)
  have k2 : okI (-1) = true := by decide
  unfold crs
  rcases h with ⟨f, e⟩ | ⟨f, c3, e⟩
  · rw [if_pos f]
    simp only [F_crossed, G_crossed, ev_fBin, ev_fUn, ev_fCons, ev_fApp, ev_fTup, ev_fLst, ev_fOfL, ev_fTest, ev_fAnd, ev_fOr, ev_fNot, ev_fAndV, ev_fOrV, ev_fNotV, ev_fIf, ev_fFrz, ev_fIter, ev_gSeq, ev_gRet, ev_gIf, ev_gSet, ev_gOwn, ev_gAsg, ev_gPar, ev_gParO, ev_gAug, ev_gApp, ev_gExt, ev_gPut, ev_gFor, ev_fSl, ev_fPart, ev_fRepL, ev_fChain, ev_run, ev_fRng1, ev_fRng2, ev_fRng3, ev_fRgL, ev_fRgT, ev_fRg1, ev_fRg2, ev_fSortSet, ev_tFrz, ev_frz_cons, ev_frz_nil, ev_var0, ev_varS, ev_C, ev_nil, ev_yes, ev_noPart, ev_next, ev_break, ev_cont, ev_no, ev_name, ev_tup2, frzC, wipeE, startE, List.length_cons, List.length_nil, List.map_cons, List.map_nil, List.replicate_succ, List.replicate_zero, List.cons_append, List.nil_append, List.getElem?_cons_zero, List.getElem?_cons_succ, List.set_cons_zero, List.set_cons_succ, Option.map_some, Option.map_none, Nat.reduceAdd, Nat.reduceSub, Nat.reduceLeDiff, if_true, ite_true, ite_false, Nat.zero_add, Nat.add_zero, Nat.sub_self, Nat.sub_zero, dLen_k, dSub_ii, dNeg_i, k1, k2, Bool.and_self, e1, e]
  · rw [if_neg (by rw [f]; simp)]
    have hcs : inR n (c ++ [s]) := inR_append hc fun b hb => by rw [List.mem_singleton.mp hb]; exact hs
    have hf := m_in_form h3 hcs (by rw [List.length_append, List.length_singleton]; omega)
    have t : PyData.tuple [PyData.int s] = kT [s] := rfl
    simp only [F_crossed, G_crossed, ev_fBin, ev_fUn, ev_fCons, ev_fApp, ev_fTup, ev_fLst, ev_fOfL, ev_fTest, ev_fAnd, ev_fOr, ev_fNot, ev_fAndV, ev_fOrV, ev_fNotV, ev_fIf, ev_fFrz, ev_fIter, ev_gSeq, ev_gRet, ev_gIf, ev_gSet, ev_gOwn, ev_gAsg, ev_gPar, ev_gParO, ev_gAug, ev_gApp, ev_gExt, ev_gPut, ev_gFor, ev_fSl, ev_fPart, ev_fRepL, ev_fChain, ev_run, ev_fRng1, ev_fRng2, ev_fRng3, ev_fRgL, ev_fRgT, ev_fRg1, ev_fRg2, ev_fSortSet, ev_tFrz, ev_frz_cons, ev_frz_nil, ev_var0, ev_varS, ev_C, ev_nil, ev_yes, ev_noPart, ev_next, ev_break, ev_cont, ev_no, ev_name, ev_tup2, frzC, wipeE, startE, List.length_cons, List.length_nil, List.map_cons, List.map_nil, List.replicate_succ, List.replicate_zero, List.cons_append, List.nil_append, List.getElem?_cons_zero, List.getElem?_cons_succ, List.set_cons_zero, List.set_cons_succ, Option.map_some, Option.map_none, Nat.reduceAdd, Nat.reduceSub, Nat.reduceLeDiff, if_true, ite_true, ite_false, Nat.zero_add, Nat.add_zero, Nat.sub_self, Nat.sub_zero, dLen_k, dSub_ii, dNeg_i, k1, k2, Bool.and_self, e1, e, t, dAdd_k (show c.length + [s].length ≤ 100000 by rw [List.length_singleton]; omega), hf]
theorem crs_len_le {n : Int} {c : Wrd} {s : Int} : (crs n c s).length ≤ c.length + 1 := by
  rw [crs_len]
  split <;> omega
theorem inR_crs {n s : Int} {c : Wrd} (hc : inR n c) (hs : 0 ≤ s ∧ s < n) : inR n (crs n c s) := by
  unfold crs
  split
  · exact inR_form (inR_rev (inR_erase (inR_rev hc)))
  · exact inR_form (inR_append hc fun b hb => by rw [List.mem_singleton.mp hb]; exact hs)
theorem m_times {n : Int} {c w : Wrd} (h3 : 3 ≤ n) (hc : inR n c) (hw : inR n w) (hl : c.length + w.length ≤ 5000) : F_times [.int n, kT c, kT w] = some (kT (tms n c w)) := by
  obtain ⟨ρ', e, c3, h, _⟩ := loop_inv (g := sName 3) (B := B_times_0) (i := PyData.int) (l := w)
    (Inv := fun pre ρ => ∃ c3, ρ = [some (.dat (.int n)), some (.dat (kT (tms n c pre))), some (.dat (kT w)), c3] ∧ inR n (tms n c pre) ∧ (tms n c pre).length ≤ c.length + pre.length)
    (fun pre s post ρ hp ⟨c3, hρ, h1, h2⟩ => by
      have hlen := congrArg List.length hp
      rw [List.length_append, List.length_cons] at hlen
      have hs : 0 ≤ s ∧ s < n := hw s (by rw [hp]; simp)
      subst hρ
      have e : tms n c (pre ++ [s]) = crs n (tms n c pre) s := by rw [tms_append]; rfl
      refine ⟨_, _, rfl, .inl ?_, some (.dat (.int s)), rfl, ?_, ?_⟩
      · rw [e]
        simp only [B_times_0, ev_fBin, ev_fUn, ev_fCons, ev_fApp, ev_fTup, ev_fLst, ev_fOfL, ev_fTest, ev_fAnd, ev_fOr, ev_fNot, ev_fAndV, ev_fOrV, ev_fNotV, ev_fIf, ev_fFrz, ev_fIter, ev_gSeq, ev_gRet, ev_gIf, ev_gSet, ev_gOwn, ev_gAsg, ev_gPar, ev_gParO, ev_gAug, ev_gApp, ev_gExt, ev_gPut, ev_gFor, ev_fSl, ev_fPart, ev_fRepL, ev_fChain, ev_run, ev_fRng1, ev_fRng2, ev_fRng3, ev_fRgL, ev_fRgT, ev_fRg1, ev_fRg2, ev_fSortSet, ev_tFrz, ev_frz_cons, ev_frz_nil, ev_var0, ev_varS, ev_C, ev_nil, ev_yes, ev_noPart, ev_next, ev_break, ev_cont, ev_no, ev_name, ev_tup2, frzC, wipeE, startE, List.length_cons, List.length_nil, List.map_cons, List.map_nil, List.replicate_succ, List.replicate_zero, List.cons_append, List.nil_append, List.getElem?_cons_zero, List.getElem?_cons_succ, List.set_cons_zero, List.set_cons_succ, Option.map_some, Option.map_none, Nat.reduceAdd, Nat.reduceSub, Nat.reduceLeDiff, if_true, ite_true, ite_false, Nat.zero_add, Nat.add_zero, Nat.sub_self, Nat.sub_zero, m_crossed h3 h1 hs (by omega)]
      · rw [e]; exact inR_crs h1 hs
      · rw [e, List.length_append, List.length_singleton]
        have := crs_len_le (n := n) (c := tms n c pre) (s := s)
        omega)
    (ρ := [some (.dat (.int n)), some (.dat (kT c)), some (.dat (kT w)), none]) ⟨none, rfl, hc, Nat.le_refl _⟩
  subst h
  have ti : items (kT w) = some (w.map PyData.int) := rfl
  simp only [F_times, G_times, ev_fBin, ev_fUn, ev_fCons, ev_fApp, ev_fTup, ev_fLst, ev_fOfL, ev_fTest, ev_fAnd, ev_fOr, ev_fNot, ev_fAndV, ev_fOrV, ev_fNotV, ev_fIf, ev_fFrz, ev_fIter, ev_gSeq, ev_gRet, ev_gIf, ev_gSet, ev_gOwn, ev_gAsg, ev_gPar, ev_gParO, ev_gAug, ev_gApp, ev_gExt, ev_gPut, ev_gFor, ev_fSl, ev_fPart, ev_fRepL, ev_fChain, ev_run, ev_fRng1, ev_fRng2, ev_fRng3, ev_fRgL, ev_fRgT, ev_fRg1, ev_fRg2, ev_fSortSet, ev_tFrz, ev_frz_cons, ev_frz_nil, ev_var0, ev_varS, ev_C, ev_nil, ev_yes, ev_noPart, ev_next, ev_break, ev_cont, ev_no, ev_name, ev_tup2, frzC, wipeE, startE, List.length_cons, List.length_nil, List.map_cons, List.map_nil, List.replicate_succ, List.replicate_zero, List.cons_append, List.nil_append, List.getElem?_cons_zero, List.getElem?_cons_succ, List.set_cons_zero, List.set_cons_succ, Option.map_some, Option.map_none, Nat.reduceAdd, Nat.reduceSub, Nat.reduceLeDiff, if_true, ite_true, ite_false, Nat.zero_add, Nat.add_zero, Nat.sub_self, Nat.sub_zero, ti, e]
end Wd

set_option Elab.async false
set_option linter.all false
set_option maxRecDepth 100000
set_option maxHeartbeats 4000000
set_option autoImplicit false
/-! what the law's own defs compute: near, column, shorter, form -/
namespace Wd
open PySem PyProof.Rows L2 Mt
theorem mod_one {n d : Int} (h3 : 3 ≤ n) (h1 : -n < d) (h2 : d < n) : (d % n == 1) = decide (d = 1 ∨ d = 1 - n) := by
  have e : d % n = if 0 ≤ d then d else d + n := by
    split
    · exact Int.emod_eq_of_lt (by omega) (by omega)
    · rw [← Int.add_emod_right]
      exact Int.emod_eq_of_lt (by omega) (by omega)
  rw [e, Bool.eq_iff_iff, beq_iff_eq, decide_eq_true_eq]
  split <;> omega
theorem m_near {n a b : Int} (h3 : 3 ≤ n) (ha : 0 ≤ a ∧ a < n) (hb : 0 ≤ b ∧ b < n) : F__law_near [.int n, .int a, .int b] = some (.bool (adj n a b)) := by
  have e : adj n a b = (((a - b) % n == 1) || ((b - a) % n == 1)) := by
    rw [mod_one h3 (by omega) (by omega), mod_one h3 (by omega) (by omega), Bool.eq_iff_iff, Bool.or_eq_true, decide_eq_true_eq, decide_eq_true_eq]
    unfold adj
    rw [decide_eq_true_eq]
    omega
  have ti : ∀ i, dInt [.int i] = some (.int i) := fun i => rfl
  simp only [F__law_near, G__law_near, ev_fBin, ev_fUn, ev_fCons, ev_fApp, ev_fTup, ev_fLst, ev_fOfL, ev_fTest, ev_fAnd, ev_fOr, ev_fNot, ev_fAndV, ev_fOrV, ev_fNotV, ev_fIf, ev_fFrz, ev_fIter, ev_gSeq, ev_gRet, ev_gIf, ev_gSet, ev_gOwn, ev_gAsg, ev_gPar, ev_gParO, ev_gAug, ev_gApp, ev_gExt, ev_gPut, ev_gFor, ev_fSl, ev_fPart, ev_fRepL, ev_fChain, ev_run, ev_fRng1, ev_fRng2, ev_fRng3, ev_fRgL, ev_fRgT, ev_fRg1, ev_fRg2, ev_fSortSet, ev_tFrz, ev_frz_cons, ev_frz_nil, ev_var0, ev_varS, ev_C, ev_nil, ev_yes, ev_noPart, ev_next, ev_break, ev_cont, ev_no, ev_name, ev_tup2, frzC, wipeE, startE, List.length_cons, List.length_nil, List.map_cons, List.map_nil, List.replicate_succ, List.replicate_zero, List.cons_append, List.nil_append, List.getElem?_cons_zero, List.getElem?_cons_succ, List.set_cons_zero, List.set_cons_succ, Option.map_some, Option.map_none, Nat.reduceAdd, Nat.reduceSub, Nat.reduceLeDiff, if_true, ite_true, ite_false, Nat.zero_add, Nat.add_zero, Nat.sub_self, Nat.sub_zero, dSub_ii, dMod_ok (show 0 < n by omega), dEq_ii, ti]
  rw [e]
  cases ((a - b) % n == 1) <;> rfl
def rowD (n : Int) (v : Vec) : List D := (List.range n.toNat).map fun (i : Nat) => PyData.int (v (i : Int))
theorem rowD_len {n : Int} {v : Vec} : (rowD n v).length = n.toNat := by unfold rowD; rw [List.length_map, List.length_range]
theorem dIx_row {n a : Int} {v : Vec} (ha : 0 ≤ a ∧ a < n) : dIx (.list (rowD n v)) (.int a) = some (.int (v a)) := by
  have e : a = ((a.toNat : Nat) : Int) := by omega
  show atI (rowD n v) a = _
  rw [e, atI_nat (by rw [rowD_len]; omega)]
  unfold rowD
  rw [List.getElem?_map, List.getElem?_range (by omega)]
  rfl
theorem rowD_set {n a x : Int} {v : Vec} (ha : 0 ≤ a ∧ a < n) : (rowD n v).set a.toNat (.int x) = rowD n fun i => if i = a then x else v i := by
  apply List.ext_getElem?
  intro i
  rw [List.getElem?_set]
  unfold rowD
  rw [List.getElem?_map, List.getElem?_map, List.length_map, List.length_range]
  by_cases hi : i < n.toNat
  · rw [List.getElem?_range hi]
    by_cases h : a.toNat = i
    · rw [if_pos h, if_pos (by omega)]
      show _ = some (PyData.int (if (i : Int) = a then x else v (i : Int)))
      rw [if_pos (by omega)]
    · rw [if_neg h]
      show _ = some (PyData.int (if (i : Int) = a then x else v (i : Int)))
      rw [if_neg (by omega)]
      rfl
  · rw [List.getElem?_eq_none (by rw [List.length_range]; omega), if_neg (by omega)]
    rfl
theorem ixN_int {m : Nat} {a : Int} (h0 : 0 ≤ a) (h : a < (m : Int)) : ixN m a = some a.toNat := by
  unfold ixN
  rw [if_pos h0, if_pos h]
theorem lf_int {i : Int} : lf (.int i) = true := rfl
theorem sm_append {l m : List Int} {v : Vec} : sm (l ++ m) v = sm l v + sm m v := by
  unfold sm
  rw [List.map_append, List.sum_append]
/-- the inner loop: what is next to a side -/
theorem l_weight {n a : Int} {v : Vec} {c1 c2 c4 : Option Cell} (h3 : 3 ≤ n) (hn : n ≤ 1000) (ha : 0 ≤ a ∧ a < n) (x : Int) (c7 : Option Cell) :
    ∃ c7', loop (sName 7) B__law_column_0 (rngD 0 n.toNat) [some (.dat (.int n)), c1, c2, some (.own (rowD n v)), c4, some (.dat (.int a)), some (.dat (.int x)), c7]
      = .nx [some (.dat (.int n)), c1, c2, some (.own (rowD n v)), c4, some (.dat (.int a)), some (.dat (.int (x - sm (others n a) v))), c7'] := by
  have es : rngD 0 n.toNat = (sides n).map PyData.int := by
    unfold rngD sides
    rw [List.map_map]
    apply List.map_congr_left
    intro i _
    show PyData.int ((0 : Int) + (i : Int)) = PyData.int (i : Int)
    rw [Int.zero_add]
  rw [es]
  obtain ⟨ρ', e, c, h⟩ := loop_inv (g := sName 7) (B := B__law_column_0) (i := PyData.int) (l := sides n)
    (Inv := fun pre ρ => ∃ c, ρ = [some (.dat (.int n)), c1, c2, some (.own (rowD n v)), c4, some (.dat (.int a)), some (.dat (.int (x - sm (pre.filter fun j => decide (j ≠ a) && !adj n j a) v))), c])
    (fun pre j post ρ hp ⟨c, hρ⟩ => by
      have hj : 0 ≤ j ∧ j < n := mem_sides.mp (by rw [hp]; simp)
      subst hρ
      refine ⟨_, _, rfl, .inl ?_, some (.dat (.int j)), rfl⟩
      rw [List.filter_append, sm_append, List.filter_cons, List.filter_nil]
      by_cases q1 : j = a
      · have q : (j == a) = true := by simpa using q1
        simp only [B__law_column_0, ev_fBin, ev_fUn, ev_fCons, ev_fApp, ev_fTup, ev_fLst, ev_fOfL, ev_fTest, ev_fAnd, ev_fOr, ev_fNot, ev_fAndV, ev_fOrV, ev_fNotV, ev_fIf, ev_fFrz, ev_fIter, ev_gSeq, ev_gRet, ev_gIf, ev_gSet, ev_gOwn, ev_gAsg, ev_gPar, ev_gParO, ev_gAug, ev_gApp, ev_gExt, ev_gPut, ev_gFor, ev_fSl, ev_fPart, ev_fRepL, ev_fChain, ev_run, ev_fRng1, ev_fRng2, ev_fRng3, ev_fRgL, ev_fRgT, ev_fRg1, ev_fRg2, ev_fSortSet, ev_tFrz, ev_frz_cons, ev_frz_nil, ev_var0, ev_varS, ev_C, ev_nil, ev_yes, ev_noPart, ev_next, ev_break, ev_cont, ev_no, ev_name, ev_tup2, frzC, wipeE, startE, List.length_cons, List.length_nil, List.map_cons, List.map_nil, List.replicate_succ, List.replicate_zero, List.cons_append, List.nil_append, List.getElem?_cons_zero, List.getElem?_cons_succ, List.set_cons_zero, List.set_cons_succ, Option.map_some, Option.map_none, Nat.reduceAdd, Nat.reduceSub, Nat.reduceLeDiff, if_true, ite_true, ite_false, Nat.zero_add, Nat.add_zero, Nat.sub_self, Nat.sub_zero, dNe_ii, q, Bool.not_true]
        simp [q1, sm]
      · have q : (j == a) = false := by simpa using q1
        simp only [B__law_column_0, ev_fBin, ev_fUn, ev_fCons, ev_fApp, ev_fTup, ev_fLst, ev_fOfL, ev_fTest, ev_fAnd, ev_fOr, ev_fNot, ev_fAndV, ev_fOrV, ev_fNotV, ev_fIf, ev_fFrz, ev_fIter, ev_gSeq, ev_gRet, ev_gIf, ev_gSet, ev_gOwn, ev_gAsg, ev_gPar, ev_gParO, ev_gAug, ev_gApp, ev_gExt, ev_gPut, ev_gFor, ev_fSl, ev_fPart, ev_fRepL, ev_fChain, ev_run, ev_fRng1, ev_fRng2, ev_fRng3, ev_fRgL, ev_fRgT, ev_fRg1, ev_fRg2, ev_fSortSet, ev_tFrz, ev_frz_cons, ev_frz_nil, ev_var0, ev_varS, ev_C, ev_nil, ev_yes, ev_noPart, ev_next, ev_break, ev_cont, ev_no, ev_name, ev_tup2, frzC, wipeE, startE, List.length_cons, List.length_nil, List.map_cons, List.map_nil, List.replicate_succ, List.replicate_zero, List.cons_append, List.nil_append, List.getElem?_cons_zero, List.getElem?_cons_succ, List.set_cons_zero, List.set_cons_succ, Option.map_some, Option.map_none, Nat.reduceAdd, Nat.reduceSub, Nat.reduceLeDiff, if_true, ite_true, ite_false, Nat.zero_add, Nat.add_zero, Nat.sub_self, Nat.sub_zero, dNe_ii, q, Bool.not_false, m_near h3 hj ha]
        cases q2 : adj n j a with
        | true => simp [q1, q2, sm]
        | false =>
          simp only [Bool.not_false, ev_fBin, ev_fUn, ev_fCons, ev_fApp, ev_fTup, ev_fLst, ev_fOfL, ev_fTest, ev_fAnd, ev_fOr, ev_fNot, ev_fAndV, ev_fOrV, ev_fNotV, ev_fIf, ev_fFrz, ev_fIter, ev_gSeq, ev_gRet, ev_gIf, ev_gSet, ev_gOwn, ev_gAsg, ev_gPar, ev_gParO, ev_gAug, ev_gApp, ev_gExt, ev_gPut, ev_gFor, ev_fSl, ev_fPart, ev_fRepL, ev_fChain, ev_run, ev_fRng1, ev_fRng2, ev_fRng3, ev_fRgL, ev_fRgT, ev_fRg1, ev_fRg2, ev_fSortSet, ev_tFrz, ev_frz_cons, ev_frz_nil, ev_var0, ev_varS, ev_C, ev_nil, ev_yes, ev_noPart, ev_next, ev_break, ev_cont, ev_no, ev_name, ev_tup2, frzC, wipeE, startE, List.length_cons, List.length_nil, List.map_cons, List.map_nil, List.replicate_succ, List.replicate_zero, List.cons_append, List.nil_append, List.getElem?_cons_zero, List.getElem?_cons_succ, List.set_cons_zero, List.set_cons_succ, Option.map_some, Option.map_none, Nat.reduceAdd, Nat.reduceSub, Nat.reduceLeDiff, if_true, ite_true, ite_false, Nat.zero_add, Nat.add_zero, Nat.sub_self, Nat.sub_zero, dIx_row hj, dSub_ii, lf_int]
          simp [q1, sm]
          omega)
    (ρ := [some (.dat (.int n)), c1, c2, some (.own (rowD n v)), c4, some (.dat (.int a)), some (.dat (.int x)), c7]) ⟨c7, by simp [sm]⟩
  subst h
  exact ⟨c, e⟩
theorem dIx_last {w : Wrd} {k : Nat} (h : k < w.length) : dIx (.list (w.map PyData.int)) (.int ((w.length : Int) - 1 - (k : Int))) = some (.int (w.getD (w.length - 1 - k) 0)) := by
  rw [show ((w.length : Int) - 1 - (k : Int)) = ((w.length - 1 - k : Nat) : Int) by omega]
  exact dIx_lk (by omega)
theorem dLen_m {w : Wrd} : dLen [.list (w.map PyData.int)] = some (.int w.length) := by
  show some (PyData.int ((w.map PyData.int).length : Nat)) = _
  rw [List.length_map]
theorem dMul_two {x : Int} : dMul (.int 2) (.int x) = some (.int (2 * x)) := by
  show (if (smallI 2 || smallI x) = true then some (PyData.int (2 * x)) else none) = _
  rw [if_pos (by rw [show smallI 2 = true by decide]; rfl)]
theorem m_column {n s : Int} {w : Wrd} (h3 : 3 ≤ n) (hn : n ≤ 1000) (hw : inR n w) (hs : 0 ≤ s ∧ s < n) (hl : w.length ≤ 10000) :
    F__law_column [.int n, .list (w.map .int), .int s] = some (.list (rowD n (act n w (one s)))) := by
  obtain ⟨ρ', e, c4, c5, c6, c7, h⟩ := loop_inv (g := sName 4) (B := B__law_column_1) (i := fun k : Nat => PyData.int ((0 : Int) + (k : Int))) (l := List.range w.length)
    (Inv := fun pre ρ => ∃ c4 c5 c6 c7, ρ = [some (.dat (.int n)), some (.dat (.list (w.map .int))), some (.dat (.int s)), some (.own (rowD n (act n (w.drop (w.length - pre.length)) (one s)))), c4, c5, c6, c7])
    (fun pre k post ρ hp ⟨c4, c5, c6, c7, hρ⟩ => by
      have hpl : pre.length = k := by
        have e1 : (pre ++ k :: post)[pre.length]? = some k := by rw [List.getElem?_append_right (Nat.le_refl _), Nat.sub_self]; rfl
        rw [← hp] at e1
        obtain ⟨hh, e2⟩ := List.getElem?_eq_some_iff.mp e1
        rw [List.getElem_range] at e2
        exact e2
      have hk : k < w.length := List.mem_range.mp (by rw [hp]; simp)
      have hm : w.length - 1 - k < w.length := by omega
      have ha := inR_getD hw hm
      subst hρ
      have ed : w.drop (w.length - (pre ++ [k]).length) = w.getD (w.length - 1 - k) 0 :: w.drop (w.length - pre.length) := by
        rw [List.length_append, List.length_singleton, hpl, show w.length - (k + 1) = w.length - 1 - k by omega, List.drop_eq_getElem_cons hm, List.getD_eq_getElem?_getD, List.getElem?_eq_getElem hm]
        rw [show w.length - 1 - k + 1 = w.length - k by omega]
        rfl
      rw [ed]
      obtain ⟨c7', el⟩ := l_weight (n := n) (a := w.getD (w.length - 1 - k) 0) (v := act n (w.drop (w.length - pre.length)) (one s)) (c1 := some (.dat (.list (w.map .int)))) (c2 := some (.dat (.int s))) (c4 := some (.dat (.int (k : Int)))) h3 hn ha (act n (w.drop (w.length - pre.length)) (one s) (w.getD (w.length - 1 - k) 0)) c7
      refine ⟨_, _, rfl, .inl ?_, some (.dat (.int (k : Int))), some (.dat (.int (w.getD (w.length - 1 - k) 0))), some (.dat (.int (wt n (w.getD (w.length - 1 - k) 0) (act n (w.drop (w.length - pre.length)) (one s))))), c7', rfl⟩
      have kn : okI n = true := okI_of (by omega) (by omega)
      have ix : ixN (rowD n (act n (w.drop (w.length - pre.length)) (one s))).length (w.getD (w.length - 1 - k) 0) = some (w.getD (w.length - 1 - k) 0).toNat := ixN_int ha.1 (by rw [rowD_len]; omega)
      simp only [B__law_column_1, ev_fBin, ev_fUn, ev_fCons, ev_fApp, ev_fTup, ev_fLst, ev_fOfL, ev_fTest, ev_fAnd, ev_fOr, ev_fNot, ev_fAndV, ev_fOrV, ev_fNotV, ev_fIf, ev_fFrz, ev_fIter, ev_gSeq, ev_gRet, ev_gIf, ev_gSet, ev_gOwn, ev_gAsg, ev_gPar, ev_gParO, ev_gAug, ev_gApp, ev_gExt, ev_gPut, ev_gFor, ev_fSl, ev_fPart, ev_fRepL, ev_fChain, ev_run, ev_fRng1, ev_fRng2, ev_fRng3, ev_fRgL, ev_fRgT, ev_fRg1, ev_fRg2, ev_fSortSet, ev_tFrz, ev_frz_cons, ev_frz_nil, ev_var0, ev_varS, ev_C, ev_nil, ev_yes, ev_noPart, ev_next, ev_break, ev_cont, ev_no, ev_name, ev_tup2, frzC, wipeE, startE, List.length_cons, List.length_nil, List.map_cons, List.map_nil, List.replicate_succ, List.replicate_zero, List.cons_append, List.nil_append, List.getElem?_cons_zero, List.getElem?_cons_succ, List.set_cons_zero, List.set_cons_succ, Option.map_some, Option.map_none, Nat.reduceAdd, Nat.reduceSub, Nat.reduceLeDiff, if_true, ite_true, ite_false, Nat.zero_add, Nat.add_zero, Nat.sub_self, Nat.sub_zero, Int.zero_add, dLen_m, dSub_ii, dIx_last hk, dIx_row ha, lf_int, kn, el, dMul_two, ix, rowD_set ha]
      rfl)
    (ρ := [some (.dat (.int n)), some (.dat (.list (w.map .int))), some (.dat (.int s)), some (.own (rowD n (one s))), none, none, none, none]) ⟨none, none, none, none, by rw [List.length_nil, Nat.sub_zero, List.drop_length]; rfl⟩
  subst h
  have e0 : (List.replicate n.toNat [PyData.int 0]).flatten = rowD n fun _ => 0 := by
    unfold rowD
    apply List.ext_getElem?
    intro i
    rw [show (List.replicate n.toNat [PyData.int 0]).flatten = List.replicate n.toNat (PyData.int 0) by
      induction n.toNat with
      | zero => rfl
      | succ k ih => rw [List.replicate_succ, List.flatten_cons, ih]; rfl]
    rw [List.getElem?_replicate, List.getElem?_map]
    by_cases hi : i < n.toNat
    · rw [if_pos hi, List.getElem?_range hi]; rfl
    · rw [if_neg hi, List.getElem?_eq_none (by rw [List.length_range]; omega)]; rfl
  have c1 : ([PyData.int 0].length * n.toNat ≤ 100000 ∧ n < 2 ^ 62 ∧ -(2 ^ 62) ≤ n) := ⟨by rw [List.length_singleton]; omega, by omega, by omega⟩
  have c2 : (0 + 1 : Nat) * n.toNat ≤ 100000 ∧ n < 2 ^ 62 ∧ -(2 ^ 62) ≤ n := ⟨by omega, by omega, by omega⟩
  have c3 : (1 : Nat) * n.toNat ≤ 100000 ∧ n < 2 ^ 62 ∧ -(2 ^ 62) ≤ n := ⟨by omega, by omega, by omega⟩
  have ix : ixN (rowD n fun _ => 0).length s = some s.toNat := ixN_int hs.1 (by rw [rowD_len]; omega)
  have kl : okI (w.length : Int) = true := okI_nat (by omega)
  have eo : (rowD n fun i => if i = s then (1 : Int) else 0) = rowD n (one s) := rfl
  rw [List.length_range, Nat.sub_self, List.drop_zero] at e
  simp only [F__law_column, G__law_column, ev_fBin, ev_fUn, ev_fCons, ev_fApp, ev_fTup, ev_fLst, ev_fOfL, ev_fTest, ev_fAnd, ev_fOr, ev_fNot, ev_fAndV, ev_fOrV, ev_fNotV, ev_fIf, ev_fFrz, ev_fIter, ev_gSeq, ev_gRet, ev_gIf, ev_gSet, ev_gOwn, ev_gAsg, ev_gPar, ev_gParO, ev_gAug, ev_gApp, ev_gExt, ev_gPut, ev_gFor, ev_fSl, ev_fPart, ev_fRepL, ev_fChain, ev_run, ev_fRng1, ev_fRng2, ev_fRng3, ev_fRgL, ev_fRgT, ev_fRg1, ev_fRg2, ev_fSortSet, ev_tFrz, ev_frz_cons, ev_frz_nil, ev_var0, ev_varS, ev_C, ev_nil, ev_yes, ev_noPart, ev_next, ev_break, ev_cont, ev_no, ev_name, ev_tup2, frzC, wipeE, startE, List.length_cons, List.length_nil, List.map_cons, List.map_nil, List.replicate_succ, List.replicate_zero, List.cons_append, List.nil_append, List.getElem?_cons_zero, List.getElem?_cons_succ, List.set_cons_zero, List.set_cons_succ, Option.map_some, Option.map_none, Nat.reduceAdd, Nat.reduceSub, Nat.reduceLeDiff, if_true, ite_true, ite_false, Nat.zero_add, Nat.add_zero, Nat.sub_self, Nat.sub_zero, c1, c2, c3, and_self, e0, ix, rowD_set hs, eo, dLen_m, kl, Int.toNat_natCast, rngD_map, e]
theorem m_shorter {n s : Int} {w : Wrd} (h3 : 3 ≤ n) (hn : n ≤ 1000) (hw : inR n w) (hs : 0 ≤ s ∧ s < n) (hl : w.length ≤ 10000) :
    F__law_shorter [.int n, .list (w.map .int), .int s] = some (.bool ((sides n).all fun i => decide (act n w (one s) i ≤ 0))) := by
  have e : C__law_shorter_0 [some (.dat (.int n)), some (.dat (.list (w.map .int))), some (.dat (.int s)), none] = some (((sides n).filter fun i => decide (0 < act n w (one s) i)).map fun i => PyData.int (act n w (one s) i)) := by
    refine fLc_filter (l := sides n) (i := fun i => PyData.int (act n w (one s) i)) ?_ ?_ fun i hi => ?_
    · have er : rowD n (act n w (one s)) = (sides n).map fun i => PyData.int (act n w (one s) i) := by
        unfold rowD sides
        rw [List.map_map]
        rfl
      simp only [ev_fBin, ev_fUn, ev_fCons, ev_fApp, ev_fTup, ev_fLst, ev_fOfL, ev_fTest, ev_fAnd, ev_fOr, ev_fNot, ev_fAndV, ev_fOrV, ev_fNotV, ev_fIf, ev_fFrz, ev_fIter, ev_gSeq, ev_gRet, ev_gIf, ev_gSet, ev_gOwn, ev_gAsg, ev_gPar, ev_gParO, ev_gAug, ev_gApp, ev_gExt, ev_gPut, ev_gFor, ev_fSl, ev_fPart, ev_fRepL, ev_fChain, ev_run, ev_fRng1, ev_fRng2, ev_fRng3, ev_fRgL, ev_fRgT, ev_fRg1, ev_fRg2, ev_fSortSet, ev_tFrz, ev_frz_cons, ev_frz_nil, ev_var0, ev_varS, ev_C, ev_nil, ev_yes, ev_noPart, ev_next, ev_break, ev_cont, ev_no, ev_name, ev_tup2, frzC, wipeE, startE, List.length_cons, List.length_nil, List.map_cons, List.map_nil, List.replicate_succ, List.replicate_zero, List.cons_append, List.nil_append, List.getElem?_cons_zero, List.getElem?_cons_succ, List.set_cons_zero, List.set_cons_succ, Option.map_some, Option.map_none, Nat.reduceAdd, Nat.reduceSub, Nat.reduceLeDiff, if_true, ite_true, ite_false, Nat.zero_add, Nat.add_zero, Nat.sub_self, Nat.sub_zero, m_column h3 hn hw hs hl, items, er]
    · unfold sides
      rw [List.length_map, List.length_range]
      omega
    · simp only [ev_lcTurn, ev_fBin, ev_fUn, ev_fCons, ev_fApp, ev_fTup, ev_fLst, ev_fOfL, ev_fTest, ev_fAnd, ev_fOr, ev_fNot, ev_fAndV, ev_fOrV, ev_fNotV, ev_fIf, ev_fFrz, ev_fIter, ev_gSeq, ev_gRet, ev_gIf, ev_gSet, ev_gOwn, ev_gAsg, ev_gPar, ev_gParO, ev_gAug, ev_gApp, ev_gExt, ev_gPut, ev_gFor, ev_fSl, ev_fPart, ev_fRepL, ev_fChain, ev_run, ev_fRng1, ev_fRng2, ev_fRng3, ev_fRgL, ev_fRgT, ev_fRg1, ev_fRg2, ev_fSortSet, ev_tFrz, ev_frz_cons, ev_frz_nil, ev_var0, ev_varS, ev_C, ev_nil, ev_yes, ev_noPart, ev_next, ev_break, ev_cont, ev_no, ev_name, ev_tup2, frzC, wipeE, startE, List.length_cons, List.length_nil, List.map_cons, List.map_nil, List.replicate_succ, List.replicate_zero, List.cons_append, List.nil_append, List.getElem?_cons_zero, List.getElem?_cons_succ, List.set_cons_zero, List.set_cons_succ, Option.map_some, Option.map_none, Nat.reduceAdd, Nat.reduceSub, Nat.reduceLeDiff, if_true, ite_true, ite_false, Nat.zero_add, Nat.add_zero, Nat.sub_self, Nat.sub_zero, dGt_ii]
      cases decide (0 < act n w (one s) i) <;> rfl
  simp only [F__law_shorter, G__law_shorter, ev_fBin, ev_fUn, ev_fCons, ev_fApp, ev_fTup, ev_fLst, ev_fOfL, ev_fTest, ev_fAnd, ev_fOr, ev_fNot, ev_fAndV, ev_fOrV, ev_fNotV, ev_fIf, ev_fFrz, ev_fIter, ev_gSeq, ev_gRet, ev_gIf, ev_gSet, ev_gOwn, ev_gAsg, ev_gPar, ev_gParO, ev_gAug, ev_gApp, ev_gExt, ev_gPut, ev_gFor, ev_fSl, ev_fPart, ev_fRepL, ev_fChain, ev_run, ev_fRng1, ev_fRng2, ev_fRng3, ev_fRgL, ev_fRgT, ev_fRg1, ev_fRg2, ev_fSortSet, ev_tFrz, ev_frz_cons, ev_frz_nil, ev_var0, ev_varS, ev_C, ev_nil, ev_yes, ev_noPart, ev_next, ev_break, ev_cont, ev_no, ev_name, ev_tup2, frzC, wipeE, startE, List.length_cons, List.length_nil, List.map_cons, List.map_nil, List.replicate_succ, List.replicate_zero, List.cons_append, List.nil_append, List.getElem?_cons_zero, List.getElem?_cons_succ, List.set_cons_zero, List.set_cons_succ, Option.map_some, Option.map_none, Nat.reduceAdd, Nat.reduceSub, Nat.reduceLeDiff, if_true, ite_true, ite_false, Nat.zero_add, Nat.add_zero, Nat.sub_self, Nat.sub_zero, frzC, e, dLen_l, List.length_map, dEq_ii]
  congr 2
  rw [Bool.eq_iff_iff, beq_iff_eq, List.all_eq_true]
  constructor
  · intro h i hi
    rw [decide_eq_true_eq]
    have h0 : ((sides n).filter fun i => decide (0 < act n w (one s) i)) = [] := List.length_eq_zero_iff.mp (by omega)
    have := (List.filter_eq_nil_iff.mp h0) i hi
    rw [decide_eq_true_eq] at this
    omega
  · intro h
    have : ((sides n).filter fun i => decide (0 < act n w (one s) i)) = [] := List.filter_eq_nil_iff.mpr fun i hi => by
      have := h i hi
      rw [decide_eq_true_eq] at this ⊢
      omega
    rw [this]
    rfl
theorem act_out {n i : Int} {v : Vec} : ∀ {w : Wrd}, i ∉ w → act n w v i = v i
  | [], _ => rfl
  | a :: w, h => by
    show (if i = a then _ else act n w v i) = v i
    rw [if_neg fun q => h (by rw [q]; exact List.mem_cons_self)]
    exact act_out fun q => h (List.mem_cons_of_mem _ q)
theorem all_le {n s : Int} {w : Wrd} (hw : inR n w) (hs : 0 ≤ s ∧ s < n) : ((sides n).all fun i => decide (act n w (one s) i ≤ 0)) = true ↔ ∀ i, act n w (one s) i ≤ 0 := by
  rw [List.all_eq_true]
  constructor
  · intro h i
    by_cases hi : 0 ≤ i ∧ i < n
    · exact of_decide_eq_true (h i (mem_sides.mpr hi))
    · rw [act_out fun q => hi (hw i q)]
      unfold one
      rw [if_neg fun q : i = s => hi (q ▸ hs)]
      exact Int.le_refl _
  · exact fun h i _ => decide_eq_true (h i)
/-- the sides told to make r shorter are those that u can begin with, where u is r backwards -/
theorem desc_iff {n s : Int} {r u : Wrd} (h3 : 3 ≤ n) (hr : inR n r) (hu : inR n u) (ru : Red n u) (e : act n u.reverse = act n r) (hs : 0 ≤ s ∧ s < n) : ((sides n).all fun i => decide (act n r (one s) i ≤ 0)) = front n s u := by
  rw [Bool.eq_iff_iff, all_le hr hs, front_act h3 hu ru hs, e]
theorem sides_sorted (n : Int) : (sides n).Pairwise (· < ·) := by
  unfold sides
  rw [List.pairwise_map]
  exact List.pairwise_lt_range.imp fun h => by omega
theorem head_pick {n : Int} {u : Wrd} (hu : inR n u) (h : u ≠ []) : ∃ t, (sides n).filter (fun s => front n s u) = pick n u :: t := by
  obtain ⟨p1, p2⟩ := pick_spec (n := n) h
  have hm : pick n u ∈ (sides n).filter (fun s => front n s u) := List.mem_filter.mpr ⟨mem_sides.mpr (hu _ (front_mem p1)), p1⟩
  cases q : (sides n).filter (fun s => front n s u) with
  | nil => rw [q] at hm; cases hm
  | cons a t =>
    refine ⟨t, ?_⟩
    have hpw : (a :: t).Pairwise (· < ·) := by rw [← q]; exact (sides_sorted n).filter _
    rw [q] at hm
    rcases List.mem_cons.mp hm with z | z
    · rw [z]
    · have h1 := (List.pairwise_cons.mp hpw).1 _ z
      have ha : a ∈ (sides n).filter (fun s => front n s u) := by rw [q]; exact List.mem_cons_self
      have := p2 a (List.mem_filter.mp ha).2
      omega
theorem shaped_ints : ∀ l : List Int, SeqAt.shaped (.list (l.map .int)) = true := by
  intro l
  have h1 : PyData.canLayAll0 (l.map .int) = true := by
    induction l with
    | nil => rfl
    | cons a l ih =>
      show (PyData.canLay0 (.int a) && PyData.canLayAll0 (l.map .int)) = true
      rw [ih]; rfl
  have h2 : PyData.depthAll (l.map .int) = 0 := by
    clear h1
    induction l with
    | nil => rfl
    | cons a l ih =>
      show max (PyData.depth (.int a)) (PyData.depthAll (l.map .int)) = 0
      rw [ih]; rfl
  show (PyData.canLayAll0 (l.map .int) && decide (PyData.depthAll (l.map .int) + 1 ≤ 64)) = true
  rw [h1, h2]
  rfl
theorem dNe_nil {l : List Int} : dNe (.list (l.map .int)) (.list []) = some (.bool (!l.isEmpty)) := by
  show (if (SeqAt.shaped (.list (l.map .int)) && SeqAt.shaped (.list [])) = true then _ else _) = _
  rw [shaped_ints, if_pos (by rfl)]
  cases l <;> rfl
theorem dIx_l0 {a : D} {l : List D} : dIx (.list (a :: l)) (.int 0) = some a := by
  have := atI_nat (xs := a :: l) (k := 0) (by simp)
  exact this
theorem dAdd_l {u w : List D} (h : u.length + w.length ≤ 100000) : dAdd (.list u) (.list w) = some (.list (u ++ w)) := if_pos h
theorem tms_len_le {n : Int} : ∀ {w c : Wrd}, (tms n c w).length ≤ c.length + w.length
  | [], c => Nat.le_refl _
  | a :: w, c => by
    have h1 := tms_len_le (n := n) (w := w) (c := crs n c a)
    have h2 := crs_len_le (n := n) (c := c) (s := a)
    rw [tms_cons, List.length_cons]
    omega
theorem nf_len_le {n : Int} {w : Wrd} : (nf n w).length ≤ w.length := by
  have := tms_len_le (n := n) (w := w) (c := [])
  rw [List.length_nil, Nat.zero_add] at this
  exact this
theorem dTuple_l {l : List D} : dTuple [.list l] = some (.tuple l) := rfl
theorem dList_k {w : Wrd} : dList [kT w] = some (.list (w.map .int)) := rfl
theorem dRevL_m {w : Wrd} : dRevL (.list (w.map .int)) = some (.list (w.reverse.map .int)) := by
  show some (PyData.list (w.map PyData.int).reverse) = _
  rw [← List.map_reverse]
theorem m_law_form {n : Int} {w : Wrd} (h3 : 3 ≤ n) (hn : n ≤ 1000) (hw : inR n w) (hl : w.length ≤ 1000) : F__law_form [.int n, kT w] = some (kT (nf n w)) := by
  have hlen0 : (nf n w.reverse).length ≤ w.length := by
    have := nf_len_le (n := n) (w := w.reverse)
    rw [List.length_reverse] at this
    exact this
  have hN := nf_nf h3 (inR_rev hw)
  have hru := red_rev.mpr hN.red
  have hfm : form n (nf n w.reverse).reverse = nf n w := by
    refine NF.ext h3 (nf_form h3 (inR_rev hN.ir) hru) (nf_nf h3 hw) ?_
    rw [act_form, act_nf h3 hw, act_rev_congr (act_nf h3 (inR_rev hw)), List.reverse_reverse]
  obtain ⟨ρ', e, f, u, r, c4, c5, c6, h, hf, hu, ru, hlen, hr, hrl, ha, hfl⟩ := loop_inv (g := sName 4) (B := B__law_form_0) (i := fun k : Nat => PyData.int ((0 : Int) + (k : Int))) (l := List.range (w.length + 1))
    (Inv := fun pre ρ => ∃ f u r c4 c5 c6, ρ = [some (.dat (.int n)), some (.dat (kT w)), some (.own (f.map .int)), some (.dat (.list (r.map .int))), c4, c5, c6] ∧ f ++ form n u = nf n w ∧ inR n u ∧ Red n u ∧ u.length ≤ w.length - pre.length ∧ inR n r ∧ r.length ≤ w.length + pre.length ∧ act n u.reverse = act n r ∧ f.length ≤ pre.length)
    (fun pre k post ρ hp ⟨f, u, r, c4, c5, c6, hρ, hf, hu, ru, hlen, hr, hrl, ha, hfl⟩ => by
      have hpl := congrArg List.length hp
      rw [List.length_range, List.length_append, List.length_cons] at hpl
      subst hρ
      have hpl2 : (pre ++ [k]).length = pre.length + 1 := by rw [List.length_append, List.length_singleton]
      have ec : C__law_form_0 [some (.dat (.int n)), some (.dat (kT w)), some (.own (f.map .int)), some (.dat (.list (r.map .int))), some (.dat (.int ((0 : Int) + (k : Int)))), c5, c6] = some (((sides n).filter fun s => front n s u).map PyData.int) := by
        refine fLc_filter (l := sides n) (i := PyData.int) ?_ ?_ fun s hs => ?_
        · have es : rngD 0 n.toNat = (sides n).map PyData.int := by
            unfold rngD sides
            rw [List.map_map]
            apply List.map_congr_left
            intro i _
            show PyData.int ((0 : Int) + (i : Int)) = PyData.int (i : Int)
            rw [Int.zero_add]
          simp only [ev_fBin, ev_fUn, ev_fCons, ev_fApp, ev_fTup, ev_fLst, ev_fOfL, ev_fTest, ev_fAnd, ev_fOr, ev_fNot, ev_fAndV, ev_fOrV, ev_fNotV, ev_fIf, ev_fFrz, ev_fIter, ev_gSeq, ev_gRet, ev_gIf, ev_gSet, ev_gOwn, ev_gAsg, ev_gPar, ev_gParO, ev_gAug, ev_gApp, ev_gExt, ev_gPut, ev_gFor, ev_fSl, ev_fPart, ev_fRepL, ev_fChain, ev_run, ev_fRng1, ev_fRng2, ev_fRng3, ev_fRgL, ev_fRgT, ev_fRg1, ev_fRg2, ev_fSortSet, ev_tFrz, ev_frz_cons, ev_frz_nil, ev_var0, ev_varS, ev_C, ev_nil, ev_yes, ev_noPart, ev_next, ev_break, ev_cont, ev_no, ev_name, ev_tup2, frzC, wipeE, startE, List.length_cons, List.length_nil, List.map_cons, List.map_nil, List.replicate_succ, List.replicate_zero, List.cons_append, List.nil_append, List.getElem?_cons_zero, List.getElem?_cons_succ, List.set_cons_zero, List.set_cons_succ, Option.map_some, Option.map_none, Nat.reduceAdd, Nat.reduceSub, Nat.reduceLeDiff, if_true, ite_true, ite_false, Nat.zero_add, Nat.add_zero, Nat.sub_self, Nat.sub_zero, okI_of (show -1000000 ≤ n by omega) (show n ≤ 1000000 by omega), es]
        · unfold sides
          rw [List.length_map, List.length_range]
          omega
        · have hs' := mem_sides.mp hs
          simp only [ev_lcTurn, ev_fBin, ev_fUn, ev_fCons, ev_fApp, ev_fTup, ev_fLst, ev_fOfL, ev_fTest, ev_fAnd, ev_fOr, ev_fNot, ev_fAndV, ev_fOrV, ev_fNotV, ev_fIf, ev_fFrz, ev_fIter, ev_gSeq, ev_gRet, ev_gIf, ev_gSet, ev_gOwn, ev_gAsg, ev_gPar, ev_gParO, ev_gAug, ev_gApp, ev_gExt, ev_gPut, ev_gFor, ev_fSl, ev_fPart, ev_fRepL, ev_fChain, ev_run, ev_fRng1, ev_fRng2, ev_fRng3, ev_fRgL, ev_fRgT, ev_fRg1, ev_fRg2, ev_fSortSet, ev_tFrz, ev_frz_cons, ev_frz_nil, ev_var0, ev_varS, ev_C, ev_nil, ev_yes, ev_noPart, ev_next, ev_break, ev_cont, ev_no, ev_name, ev_tup2, frzC, wipeE, startE, List.length_cons, List.length_nil, List.map_cons, List.map_nil, List.replicate_succ, List.replicate_zero, List.cons_append, List.nil_append, List.getElem?_cons_zero, List.getElem?_cons_succ, List.set_cons_zero, List.set_cons_succ, Option.map_some, Option.map_none, Nat.reduceAdd, Nat.reduceSub, Nat.reduceLeDiff, if_true, ite_true, ite_false, Nat.zero_add, Nat.add_zero, Nat.sub_self, Nat.sub_zero, m_shorter h3 hn hr hs' (by omega), desc_iff h3 hr hu ru ha hs']
          cases front n s u <;> rfl
      by_cases hu0 : u = []
      · subst hu0
        have e0 : ((sides n).filter fun s => front n s []) = [] := List.filter_eq_nil_iff.mpr fun s _ => by simp [front]
        rw [e0] at ec
        refine ⟨_, _, rfl, .inl ?_, f, [], r, some (.dat (.int ((0 : Int) + (k : Int)))), some (.dat (.list [])), c6, rfl, hf, hu, ru, Nat.zero_le _, hr, by omega, ha, by omega⟩
        have t := dNe_nil (l := [])
        rw [List.map_nil] at t
        simp only [B__law_form_0, ev_fBin, ev_fUn, ev_fCons, ev_fApp, ev_fTup, ev_fLst, ev_fOfL, ev_fTest, ev_fAnd, ev_fOr, ev_fNot, ev_fAndV, ev_fOrV, ev_fNotV, ev_fIf, ev_fFrz, ev_fIter, ev_gSeq, ev_gRet, ev_gIf, ev_gSet, ev_gOwn, ev_gAsg, ev_gPar, ev_gParO, ev_gAug, ev_gApp, ev_gExt, ev_gPut, ev_gFor, ev_fSl, ev_fPart, ev_fRepL, ev_fChain, ev_run, ev_fRng1, ev_fRng2, ev_fRng3, ev_fRgL, ev_fRgT, ev_fRg1, ev_fRg2, ev_fSortSet, ev_tFrz, ev_frz_cons, ev_frz_nil, ev_var0, ev_varS, ev_C, ev_nil, ev_yes, ev_noPart, ev_next, ev_break, ev_cont, ev_no, ev_name, ev_tup2, frzC, wipeE, startE, List.length_cons, List.length_nil, List.map_cons, List.map_nil, List.replicate_succ, List.replicate_zero, List.cons_append, List.nil_append, List.getElem?_cons_zero, List.getElem?_cons_succ, List.set_cons_zero, List.set_cons_succ, Option.map_some, Option.map_none, Nat.reduceAdd, Nat.reduceSub, Nat.reduceLeDiff, if_true, ite_true, ite_false, Nat.zero_add, Nat.add_zero, Nat.sub_self, Nat.sub_zero, ec, t, List.isEmpty_nil, Bool.not_true, Nat.zero_le]
      · obtain ⟨t, et⟩ := head_pick hu hu0
        rw [et] at ec
        have hp1 := (pick_spec (n := n) hu0).1
        have hlu := front_len hp1
        have hpr : 0 ≤ pick n u ∧ pick n u < n := hu _ (front_mem hp1)
        refine ⟨_, _, rfl, .inl ?_, f ++ [pick n u], u.erase (pick n u), r ++ [pick n u], some (.dat (.int ((0 : Int) + (k : Int)))), some (.dat (.list ((pick n u :: t).map .int))), c6, rfl, ?_, inR_erase hu, (red_erase ru hp1).1, by omega, inR_append hr fun b hb => by rw [List.mem_singleton.mp hb]; exact hpr, by rw [List.length_append, List.length_singleton]; omega, ?_, by rw [List.length_append, List.length_singleton]; omega⟩
        · have tn := dNe_nil (l := pick n u :: t)
          have ti : dIx (.list ((pick n u :: t).map .int)) (.int 0) = some (.int (pick n u)) := dIx_l0
          have ta : dAdd (.list (r.map .int)) (.list [.int (pick n u)]) = some (.list ((r ++ [pick n u]).map .int)) := by
            rw [dAdd_l (by rw [List.length_map, List.length_singleton]; omega), List.map_append]
            rfl
          have tl : (f.map PyData.int).length < 100000 := by rw [List.length_map]; omega
          have t1 : (0 + 1 : Nat) ≤ 100000 := by omega
          have tm : (f ++ [pick n u]).map PyData.int = f.map PyData.int ++ [PyData.int (pick n u)] := by rw [List.map_append]; rfl
          rw [tm]
          generalize (pick n u :: t).map PyData.int = L at ec tn ti ⊢
          simp only [B__law_form_0, ev_fBin, ev_fUn, ev_fCons, ev_fApp, ev_fTup, ev_fLst, ev_fOfL, ev_fTest, ev_fAnd, ev_fOr, ev_fNot, ev_fAndV, ev_fOrV, ev_fNotV, ev_fIf, ev_fFrz, ev_fIter, ev_gSeq, ev_gRet, ev_gIf, ev_gSet, ev_gOwn, ev_gAsg, ev_gPar, ev_gParO, ev_gAug, ev_gApp, ev_gExt, ev_gPut, ev_gFor, ev_fSl, ev_fPart, ev_fRepL, ev_fChain, ev_run, ev_fRng1, ev_fRng2, ev_fRng3, ev_fRgL, ev_fRgT, ev_fRg1, ev_fRg2, ev_fSortSet, ev_tFrz, ev_frz_cons, ev_frz_nil, ev_var0, ev_varS, ev_C, ev_nil, ev_yes, ev_noPart, ev_next, ev_break, ev_cont, ev_no, ev_name, ev_tup2, frzC, wipeE, startE, List.length_cons, List.length_nil, List.map_cons, List.map_nil, List.replicate_succ, List.replicate_zero, List.cons_append, List.nil_append, List.getElem?_cons_zero, List.getElem?_cons_succ, List.set_cons_zero, List.set_cons_succ, Option.map_some, Option.map_none, Nat.reduceAdd, Nat.reduceSub, Nat.reduceLeDiff, if_true, ite_true, ite_false, Nat.zero_add, Nat.add_zero, Nat.sub_self, Nat.sub_zero, ec, tn, ti, ta, List.isEmpty_cons, Bool.not_false, tl, t1, Nat.zero_le]
        · rw [← hf, form_cons hu0]
          simp
        · rw [act_rev_congr (act_front' hp1), List.reverse_cons]
          funext v
          rw [act_append, act_append, ha])
    (ρ := [some (.dat (.int n)), some (.dat (kT w)), some (.own []), some (.dat (.list (w.reverse.map .int))), none, none, none])
    ⟨[], (nf n w.reverse).reverse, w.reverse, none, none, none, rfl, hfm, inR_rev hN.ir, hru, by rw [List.length_reverse]; exact hlen0, inR_rev hw, by rw [List.length_reverse]; omega, by rw [List.reverse_reverse, act_nf h3 (inR_rev hw)], Nat.le_refl _⟩
  rw [List.length_range] at hlen
  have hu0 : u = [] := List.length_eq_zero_iff.mp (by omega)
  subst hu0
  rw [form_nil, List.append_nil] at hf
  subst hf
  subst h
  have kl : okI ((w.length : Int) + 1) = true := okI_of (by omega) (by omega)
  have tn : ((w.length : Int) + 1).toNat = w.length + 1 := by omega
  simp only [F__law_form, G__law_form, ev_fBin, ev_fUn, ev_fCons, ev_fApp, ev_fTup, ev_fLst, ev_fOfL, ev_fTest, ev_fAnd, ev_fOr, ev_fNot, ev_fAndV, ev_fOrV, ev_fNotV, ev_fIf, ev_fFrz, ev_fIter, ev_gSeq, ev_gRet, ev_gIf, ev_gSet, ev_gOwn, ev_gAsg, ev_gPar, ev_gParO, ev_gAug, ev_gApp, ev_gExt, ev_gPut, ev_gFor, ev_fSl, ev_fPart, ev_fRepL, ev_fChain, ev_run, ev_fRng1, ev_fRng2, ev_fRng3, ev_fRgL, ev_fRgT, ev_fRg1, ev_fRg2, ev_fSortSet, ev_tFrz, ev_frz_cons, ev_frz_nil, ev_var0, ev_varS, ev_C, ev_nil, ev_yes, ev_noPart, ev_next, ev_break, ev_cont, ev_no, ev_name, ev_tup2, frzC, wipeE, startE, List.length_cons, List.length_nil, List.map_cons, List.map_nil, List.replicate_succ, List.replicate_zero, List.cons_append, List.nil_append, List.getElem?_cons_zero, List.getElem?_cons_succ, List.set_cons_zero, List.set_cons_succ, Option.map_some, Option.map_none, Nat.reduceAdd, Nat.reduceSub, Nat.reduceLeDiff, if_true, ite_true, ite_false, Nat.zero_add, Nat.add_zero, Nat.sub_self, Nat.sub_zero, dLen_k, dAdd_ii, kl, tn, dList_k, dRevL_m, rngD_map, e, dTuple_l, Nat.zero_le]
  rfl
end Wd

set_option Elab.async false
set_option linter.all false
set_option maxRecDepth 100000
set_option maxHeartbeats 4000000
set_option autoImplicit false
/-! what the pool's defs keep to: spread, draw, word, cell -/
namespace Wd
open PySem PyProof.Rows L2 Mt
theorem ev_gPutP {i : Nat} {I F : F1} {ρ : Env} : gPutP i I F ρ = ((match ρ[i]? with
  | some (some (.pin p ds)) => match F ρ with
    | some d => match I ρ with
      | some (.int k) => match ixN ds.length k with
        | some j => .nx (ρ.set i (some (.pin p (ds.set j d))))
        | none => .no
      | _ => .no
    | none => .no
  | _ => .no)) := (Eq.refl (gPutP i I F ρ)).trans (Eq.refl _)
theorem dMul_r {x c : Int} (h : smallI c = true) : dMul (.int x) (.int c) = some (.int (x * c)) := by
  show (if (smallI x || smallI c) = true then some (PyData.int (x * c)) else none) = _
  rw [if_pos (by rw [h, Bool.or_true])]
theorem dInt_i {i : Int} : dInt [.int i] = some (.int i) := rfl
theorem dLe_ii {i j : Int} : dLe (.int i) (.int j) = some (.bool (decide (i ≤ j))) := rfl
theorem dDiv_ok {i j : Int} (h : 0 < j ∧ j < 1073741824) : dDiv (.int i) (.int j) = some (.int (i / j)) := if_pos h
theorem s1 : smallI 48271 = true := by decide
theorem s2 : smallI 2147483647 = true := by decide
theorem s3 : smallI 69621 = true := by decide
theorem s4 : smallI 16807 = true := by decide
theorem m_spread (c : Int) : ∃ x : Int, F__law_spread [.int c] = some (.int x) := by
  obtain ⟨ρ', e, x, y, c3, h⟩ := loop_inv (g := sName 3) (B := B__law_spread_0) (i := fun k : Nat => PyData.int ((0 : Int) + (k : Int))) (l := List.range 4)
    (Inv := fun pre ρ => ∃ (x y : Int) (c3 : Option Cell), ρ = [some (.dat (.int c)), some (.dat (.int x)), some (.dat (.int y)), c3])
    (fun pre k post ρ hp ⟨x, y, c3, hρ⟩ => by
      subst hρ
      refine ⟨_, _, rfl, .inl ?_, (x * 48271 + 12345 + ((0 : Int) + (k : Int))) % 2147483647, y * 2147483647 + (x * 48271 + 12345 + ((0 : Int) + (k : Int))) % 2147483647, some (.dat (.int ((0 : Int) + (k : Int)))), rfl⟩
      simp only [B__law_spread_0, ev_fBin, ev_fUn, ev_fCons, ev_fApp, ev_fTup, ev_fLst, ev_fOfL, ev_fTest, ev_fAnd, ev_fOr, ev_fNot, ev_fAndV, ev_fOrV, ev_fNotV, ev_fIf, ev_fFrz, ev_fIter, ev_gSeq, ev_gRet, ev_gIf, ev_gSet, ev_gOwn, ev_gAsg, ev_gPar, ev_gParO, ev_gAug, ev_gApp, ev_gExt, ev_gPut, ev_gFor, ev_fSl, ev_fPart, ev_fRepL, ev_fChain, ev_run, ev_fRng1, ev_fRng2, ev_fRng3, ev_fRgL, ev_fRgT, ev_fRg1, ev_fRg2, ev_fSortSet, ev_tFrz, ev_frz_cons, ev_frz_nil, ev_var0, ev_varS, ev_C, ev_nil, ev_yes, ev_noPart, ev_next, ev_break, ev_cont, ev_no, ev_name, ev_tup2, frzC, wipeE, startE, List.length_cons, List.length_nil, List.map_cons, List.map_nil, List.replicate_succ, List.replicate_zero, List.cons_append, List.nil_append, List.getElem?_cons_zero, List.getElem?_cons_succ, List.set_cons_zero, List.set_cons_succ, Option.map_some, Option.map_none, Nat.reduceAdd, Nat.reduceSub, Nat.reduceLeDiff, if_true, ite_true, ite_false, Nat.zero_add, Nat.add_zero, Nat.sub_self, Nat.sub_zero, dMul_r s1, dMul_r s2, dAdd_ii, dInt_i, dMod_ok (show (0 : Int) < 2147483647 by decide)])
    (ρ := [some (.dat (.int c)), some (.dat (.int (c % 2147483647))), some (.dat (.int 1)), none]) ⟨_, _, _, rfl⟩
  subst h
  refine ⟨y, ?_⟩
  have k4 : okI 4 = true := by decide
  have t4 : (4 : Int).toNat = 4 := rfl
  simp only [F__law_spread, G__law_spread, ev_fBin, ev_fUn, ev_fCons, ev_fApp, ev_fTup, ev_fLst, ev_fOfL, ev_fTest, ev_fAnd, ev_fOr, ev_fNot, ev_fAndV, ev_fOrV, ev_fNotV, ev_fIf, ev_fFrz, ev_fIter, ev_gSeq, ev_gRet, ev_gIf, ev_gSet, ev_gOwn, ev_gAsg, ev_gPar, ev_gParO, ev_gAug, ev_gApp, ev_gExt, ev_gPut, ev_gFor, ev_fSl, ev_fPart, ev_fRepL, ev_fChain, ev_run, ev_fRng1, ev_fRng2, ev_fRng3, ev_fRgL, ev_fRgT, ev_fRg1, ev_fRg2, ev_fSortSet, ev_tFrz, ev_frz_cons, ev_frz_nil, ev_var0, ev_varS, ev_C, ev_nil, ev_yes, ev_noPart, ev_next, ev_break, ev_cont, ev_no, ev_name, ev_tup2, frzC, wipeE, startE, List.length_cons, List.length_nil, List.map_cons, List.map_nil, List.replicate_succ, List.replicate_zero, List.cons_append, List.nil_append, List.getElem?_cons_zero, List.getElem?_cons_succ, List.set_cons_zero, List.set_cons_succ, Option.map_some, Option.map_none, Nat.reduceAdd, Nat.reduceSub, Nat.reduceLeDiff, if_true, ite_true, ite_false, Nat.zero_add, Nat.add_zero, Nat.sub_self, Nat.sub_zero, dInt_i, dMod_ok (show (0 : Int) < 2147483647 by decide), k4, t4, rngD_map, e]
/-- the pool's five -/
def pl (cells : List Int) (a b c s : Int) : List D := [.list (cells.map .int), .int a, .int b, .int c, .int s]
section
variable {cells : List Int} {a b c s : Int}
theorem p0 : dIx (.list (pl cells a b c s)) (.int 0) = some (.list (cells.map .int)) := rfl
theorem p1 : dIx (.list (pl cells a b c s)) (.int 1) = some (.int a) := rfl
theorem p2 : dIx (.list (pl cells a b c s)) (.int 2) = some (.int b) := rfl
theorem p3 : dIx (.list (pl cells a b c s)) (.int 3) = some (.int c) := rfl
theorem p4 : dIx (.list (pl cells a b c s)) (.int 4) = some (.int s) := rfl
theorem ixN1 : ixN (0 + 1 + 1 + 1 + 1 + 1) 1 = some 1 := rfl
theorem pl_len : (pl cells a b c s).length = 5 := rfl
theorem ix1 : ixN 5 1 = some 1 := rfl
theorem ix2 : ixN 5 2 = some 2 := rfl
theorem ix3 : ixN 5 3 = some 3 := rfl
theorem set1 {x : Int} : (pl cells a b c s).set 1 (.int x) = pl cells x b c s := rfl
theorem set2 {x : Int} : (pl cells a b c s).set 2 (.int x) = pl cells a x c s := rfl
theorem set3 {x : Int} : (pl cells a b c s).set 3 (.int x) = pl cells a b x s := rfl
end
theorem d5 {p : Addr} {cells : List Int} {a b c s m : Int} (ha : 0 ≤ a) : ∃ (a' b' : Int) (c2 : Option Cell), 0 ≤ a' ∧ L__law_draw_5 [some (.pin p (pl cells a b c s)), some (.dat (.int m)), none, none, none] = .nx [some (.pin p (pl cells a' b' c s)), some (.dat (.int m)), c2, none, none] := by
  generalize hL : pl cells a b c s = L
  have q0 : dIx (.list L) (.int 0) = some (.list (cells.map .int)) := by rw [← hL]; exact p0
  have q1 : dIx (.list L) (.int 1) = some (.int a) := by rw [← hL]; exact p1
  have q2 : dIx (.list L) (.int 2) = some (.int b) := by rw [← hL]; exact p2
  by_cases h1 : b ≤ 0 ∧ a < (cells.length : Int)
  · have t1 : decide (b ≤ 0) = true := decide_eq_true h1.1
    have t2 : decide (a < (cells.length : Int)) = true := decide_eq_true h1.2
    have t3 : dIx (.list (cells.map .int)) (.int a) = some (.int (cells.getD a.toNat 0)) := by
      have := dIx_lk (w := cells) (k := a.toNat) (by omega)
      rwa [show ((a.toNat : Nat) : Int) = a by omega] at this
    obtain ⟨x, ex⟩ := m_spread (cells.getD a.toNat 0)
    generalize hc : cells.getD a.toNat 0 = cell at t3 ex
    have hL1 : L.length = 5 := by rw [← hL]; rfl
    have w1 : L.set 1 (.int (a + 1)) = pl cells (a + 1) b c s := by rw [← hL]; rfl
    by_cases h2 : cell < 1000000000000000000
    · refine ⟨a + 1, x, some (.dat (.int cell)), by omega, ?_⟩
      have t5 : decide (cell < 1000000000000000000) = true := decide_eq_true h2
      simp only [L__law_draw_5, ev_fBin, ev_fUn, ev_fCons, ev_fApp, ev_fTup, ev_fLst, ev_fOfL, ev_fTest, ev_fAnd, ev_fOr, ev_fNot, ev_fAndV, ev_fOrV, ev_fNotV, ev_fIf, ev_fFrz, ev_fIter, ev_gSeq, ev_gRet, ev_gIf, ev_gSet, ev_gOwn, ev_gAsg, ev_gPar, ev_gParO, ev_gAug, ev_gApp, ev_gExt, ev_gPut, ev_gFor, ev_fSl, ev_fPart, ev_fRepL, ev_fChain, ev_run, ev_fRng1, ev_fRng2, ev_fRng3, ev_fRgL, ev_fRgT, ev_fRg1, ev_fRg2, ev_fSortSet, ev_tFrz, ev_frz_cons, ev_frz_nil, ev_var0, ev_varS, ev_C, ev_nil, ev_yes, ev_noPart, ev_next, ev_break, ev_cont, ev_no, ev_name, ev_tup2, frzC, wipeE, startE, List.length_cons, List.length_nil, List.map_cons, List.map_nil, List.replicate_succ, List.replicate_zero, List.cons_append, List.nil_append, List.getElem?_cons_zero, List.getElem?_cons_succ, List.set_cons_zero, List.set_cons_succ, Option.map_some, Option.map_none, Nat.reduceAdd, Nat.reduceSub, Nat.reduceLeDiff, if_true, ite_true, ite_false, Nat.zero_add, Nat.add_zero, Nat.sub_self, Nat.sub_zero, ev_gPutP, frzC, q0, q1, q2, t3, dLe_ii, dLt_ii, dLen_m, t1, t2, lf_int, dAdd_ii, hL1, ix1, w1, t5, ex, ix2, pl_len, set2]
    · refine ⟨a + 1, cell, some (.dat (.int cell)), by omega, ?_⟩
      have t5 : decide (cell < 1000000000000000000) = false := decide_eq_false h2
      simp only [L__law_draw_5, ev_fBin, ev_fUn, ev_fCons, ev_fApp, ev_fTup, ev_fLst, ev_fOfL, ev_fTest, ev_fAnd, ev_fOr, ev_fNot, ev_fAndV, ev_fOrV, ev_fNotV, ev_fIf, ev_fFrz, ev_fIter, ev_gSeq, ev_gRet, ev_gIf, ev_gSet, ev_gOwn, ev_gAsg, ev_gPar, ev_gParO, ev_gAug, ev_gApp, ev_gExt, ev_gPut, ev_gFor, ev_fSl, ev_fPart, ev_fRepL, ev_fChain, ev_run, ev_fRng1, ev_fRng2, ev_fRng3, ev_fRgL, ev_fRgT, ev_fRg1, ev_fRg2, ev_fSortSet, ev_tFrz, ev_frz_cons, ev_frz_nil, ev_var0, ev_varS, ev_C, ev_nil, ev_yes, ev_noPart, ev_next, ev_break, ev_cont, ev_no, ev_name, ev_tup2, frzC, wipeE, startE, List.length_cons, List.length_nil, List.map_cons, List.map_nil, List.replicate_succ, List.replicate_zero, List.cons_append, List.nil_append, List.getElem?_cons_zero, List.getElem?_cons_succ, List.set_cons_zero, List.set_cons_succ, Option.map_some, Option.map_none, Nat.reduceAdd, Nat.reduceSub, Nat.reduceLeDiff, if_true, ite_true, ite_false, Nat.zero_add, Nat.add_zero, Nat.sub_self, Nat.sub_zero, ev_gPutP, frzC, q0, q1, q2, t3, dLe_ii, dLt_ii, dLen_m, t1, t2, lf_int, dAdd_ii, hL1, ix1, w1, t5, ix2, pl_len, set2]
  · refine ⟨a, b, none, ha, ?_⟩
    by_cases h2 : b ≤ 0
    · have t1 : decide (b ≤ 0) = true := decide_eq_true h2
      have t2 : decide (a < (cells.length : Int)) = false := decide_eq_false fun z => h1 ⟨h2, z⟩
      simp only [L__law_draw_5, ev_fBin, ev_fUn, ev_fCons, ev_fApp, ev_fTup, ev_fLst, ev_fOfL, ev_fTest, ev_fAnd, ev_fOr, ev_fNot, ev_fAndV, ev_fOrV, ev_fNotV, ev_fIf, ev_fFrz, ev_fIter, ev_gSeq, ev_gRet, ev_gIf, ev_gSet, ev_gOwn, ev_gAsg, ev_gPar, ev_gParO, ev_gAug, ev_gApp, ev_gExt, ev_gPut, ev_gFor, ev_fSl, ev_fPart, ev_fRepL, ev_fChain, ev_run, ev_fRng1, ev_fRng2, ev_fRng3, ev_fRgL, ev_fRgT, ev_fRg1, ev_fRg2, ev_fSortSet, ev_tFrz, ev_frz_cons, ev_frz_nil, ev_var0, ev_varS, ev_C, ev_nil, ev_yes, ev_noPart, ev_next, ev_break, ev_cont, ev_no, ev_name, ev_tup2, frzC, wipeE, startE, List.length_cons, List.length_nil, List.map_cons, List.map_nil, List.replicate_succ, List.replicate_zero, List.cons_append, List.nil_append, List.getElem?_cons_zero, List.getElem?_cons_succ, List.set_cons_zero, List.set_cons_succ, Option.map_some, Option.map_none, Nat.reduceAdd, Nat.reduceSub, Nat.reduceLeDiff, if_true, ite_true, ite_false, Nat.zero_add, Nat.add_zero, Nat.sub_self, Nat.sub_zero, frzC, q0, q1, q2, dLe_ii, dLt_ii, dLen_m, t1, t2, hL]
    · have t1 : decide (b ≤ 0) = false := decide_eq_false h2
      simp only [L__law_draw_5, ev_fBin, ev_fUn, ev_fCons, ev_fApp, ev_fTup, ev_fLst, ev_fOfL, ev_fTest, ev_fAnd, ev_fOr, ev_fNot, ev_fAndV, ev_fOrV, ev_fNotV, ev_fIf, ev_fFrz, ev_fIter, ev_gSeq, ev_gRet, ev_gIf, ev_gSet, ev_gOwn, ev_gAsg, ev_gPar, ev_gParO, ev_gAug, ev_gApp, ev_gExt, ev_gPut, ev_gFor, ev_fSl, ev_fPart, ev_fRepL, ev_fChain, ev_run, ev_fRng1, ev_fRng2, ev_fRng3, ev_fRgL, ev_fRgT, ev_fRg1, ev_fRg2, ev_fSortSet, ev_tFrz, ev_frz_cons, ev_frz_nil, ev_var0, ev_varS, ev_C, ev_nil, ev_yes, ev_noPart, ev_next, ev_break, ev_cont, ev_no, ev_name, ev_tup2, frzC, wipeE, startE, List.length_cons, List.length_nil, List.map_cons, List.map_nil, List.replicate_succ, List.replicate_zero, List.cons_append, List.nil_append, List.getElem?_cons_zero, List.getElem?_cons_succ, List.set_cons_zero, List.set_cons_succ, Option.map_some, Option.map_none, Nat.reduceAdd, Nat.reduceSub, Nat.reduceLeDiff, if_true, ite_true, ite_false, Nat.zero_add, Nat.add_zero, Nat.sub_self, Nat.sub_zero, frzC, q0, q1, q2, dLe_ii, dLt_ii, dLen_m, t1, hL]
theorem wSeq_lift {G : FS} {B : FW} {ρ ρ' : Env} {P : OutW → Prop} (hG : G ρ = .nx ρ') (h : B ρ' P) : wSeq (wLift G) B ρ P := by
  unfold wSeq wLift
  rw [hG]
  exact h
theorem wLift_nx {G : FS} {ρ ρ' : Env} {P : OutW → Prop} (hG : G ρ = .nx ρ') (h : P (.nx ρ')) : wLift G ρ P := by
  unfold wLift
  rw [hG]
  exact h
theorem wIf_t {T : FT} {A C : FW} {ρ : Env} {P : OutW → Prop} (hT : T ρ = some true) (h : A ρ P) : wIf T A C ρ P := by
  unfold wIf
  rw [hT]
  exact h
theorem wIf_f {T : FT} {A C : FW} {ρ : Env} {P : OutW → Prop} (hT : T ρ = some false) (h : C ρ P) : wIf T A C ρ P := by
  unfold wIf
  rw [hT]
  exact h
theorem wSeq_of {A B : FW} {ρ : Env} {P : OutW → Prop} (h : A ρ fun o => match o with
  | .nx ρ' => B ρ' P
  | o => P o) : wSeq A B ρ P := h
theorem len__law_draw : ∀ (ds : List D) (Φ : D → Prop), R__law_draw ds Φ → ds.length + 1 = 2 := by
  rintro ds Φ ⟨m, rfl, _⟩
  rfl
theorem d4 {p : Addr} {cells : List Int} {a b c s m : Int} {c2 : Option Cell} : L__law_draw_4 [some (.pin p (pl cells a b c s)), some (.dat (.int m)), c2, none, none] = .nx [some (.pin p (pl cells a b (c + 1) s)), some (.dat (.int m)), c2, none, none] := by
  simp only [L__law_draw_4, ev_fBin, ev_fUn, ev_fCons, ev_fApp, ev_fTup, ev_fLst, ev_fOfL, ev_fTest, ev_fAnd, ev_fOr, ev_fNot, ev_fAndV, ev_fOrV, ev_fNotV, ev_fIf, ev_fFrz, ev_fIter, ev_gSeq, ev_gRet, ev_gIf, ev_gSet, ev_gOwn, ev_gAsg, ev_gPar, ev_gParO, ev_gAug, ev_gApp, ev_gExt, ev_gPut, ev_gFor, ev_fSl, ev_fPart, ev_fRepL, ev_fChain, ev_run, ev_fRng1, ev_fRng2, ev_fRng3, ev_fRgL, ev_fRgT, ev_fRg1, ev_fRg2, ev_fSortSet, ev_tFrz, ev_frz_cons, ev_frz_nil, ev_var0, ev_varS, ev_C, ev_nil, ev_yes, ev_noPart, ev_next, ev_break, ev_cont, ev_no, ev_name, ev_tup2, frzC, wipeE, startE, List.length_cons, List.length_nil, List.map_cons, List.map_nil, List.replicate_succ, List.replicate_zero, List.cons_append, List.nil_append, List.getElem?_cons_zero, List.getElem?_cons_succ, List.set_cons_zero, List.set_cons_succ, Option.map_some, Option.map_none, Nat.reduceAdd, Nat.reduceSub, Nat.reduceLeDiff, if_true, ite_true, ite_false, Nat.zero_add, Nat.add_zero, Nat.sub_self, Nat.sub_zero, ev_gPutP, frzC, p3, dAdd_ii, lf_int, pl_len, ix3, set3]
theorem tb {p : Addr} {cells : List Int} {a b c s m : Int} {c2 : Option Cell} : (tFrz (fTest (fBin dLe (fBin dIx (fVar 0) (fC (.int 2))) (fC (.int 0))))) [some (.pin p (pl cells a b c s)), some (.dat (.int m)), c2, none, none] = some (decide (b ≤ 0)) := by
  simp only [ev_fBin, ev_fUn, ev_fCons, ev_fApp, ev_fTup, ev_fLst, ev_fOfL, ev_fTest, ev_fAnd, ev_fOr, ev_fNot, ev_fAndV, ev_fOrV, ev_fNotV, ev_fIf, ev_fFrz, ev_fIter, ev_gSeq, ev_gRet, ev_gIf, ev_gSet, ev_gOwn, ev_gAsg, ev_gPar, ev_gParO, ev_gAug, ev_gApp, ev_gExt, ev_gPut, ev_gFor, ev_fSl, ev_fPart, ev_fRepL, ev_fChain, ev_run, ev_fRng1, ev_fRng2, ev_fRng3, ev_fRgL, ev_fRgT, ev_fRg1, ev_fRg2, ev_fSortSet, ev_tFrz, ev_frz_cons, ev_frz_nil, ev_var0, ev_varS, ev_C, ev_nil, ev_yes, ev_noPart, ev_next, ev_break, ev_cont, ev_no, ev_name, ev_tup2, frzC, wipeE, startE, List.length_cons, List.length_nil, List.map_cons, List.map_nil, List.replicate_succ, List.replicate_zero, List.cons_append, List.nil_append, List.getElem?_cons_zero, List.getElem?_cons_succ, List.set_cons_zero, List.set_cons_succ, Option.map_some, Option.map_none, Nat.reduceAdd, Nat.reduceSub, Nat.reduceLeDiff, if_true, ite_true, ite_false, Nat.zero_add, Nat.add_zero, Nat.sub_self, Nat.sub_zero, frzC, p2, dLe_ii]
theorem d3 {p : Addr} {cells : List Int} {a b c s m : Int} {c2 : Option Cell} : L__law_draw_3 [some (.pin p (pl cells a b c s)), some (.dat (.int m)), c2, none, none] = .nx [some (.pin p (pl cells a b c s)), some (.dat (.int m)), c2, some (.dat (.int ((s * 48271 + c * 69621 + 1) % 2147483647))), none] := by
  simp only [L__law_draw_3, ev_fBin, ev_fUn, ev_fCons, ev_fApp, ev_fTup, ev_fLst, ev_fOfL, ev_fTest, ev_fAnd, ev_fOr, ev_fNot, ev_fAndV, ev_fOrV, ev_fNotV, ev_fIf, ev_fFrz, ev_fIter, ev_gSeq, ev_gRet, ev_gIf, ev_gSet, ev_gOwn, ev_gAsg, ev_gPar, ev_gParO, ev_gAug, ev_gApp, ev_gExt, ev_gPut, ev_gFor, ev_fSl, ev_fPart, ev_fRepL, ev_fChain, ev_run, ev_fRng1, ev_fRng2, ev_fRng3, ev_fRgL, ev_fRgT, ev_fRg1, ev_fRg2, ev_fSortSet, ev_tFrz, ev_frz_cons, ev_frz_nil, ev_var0, ev_varS, ev_C, ev_nil, ev_yes, ev_noPart, ev_next, ev_break, ev_cont, ev_no, ev_name, ev_tup2, frzC, wipeE, startE, List.length_cons, List.length_nil, List.map_cons, List.map_nil, List.replicate_succ, List.replicate_zero, List.cons_append, List.nil_append, List.getElem?_cons_zero, List.getElem?_cons_succ, List.set_cons_zero, List.set_cons_succ, Option.map_some, Option.map_none, Nat.reduceAdd, Nat.reduceSub, Nat.reduceLeDiff, if_true, ite_true, ite_false, Nat.zero_add, Nat.add_zero, Nat.sub_self, Nat.sub_zero, frzC, p3, p4, dAdd_ii, lf_int, dMul_r s1, dMul_r s3, dInt_i, dMod_ok (show (0 : Int) < 2147483647 by decide)]
theorem d2 {p : Addr} {cells : List Int} {a b c s m x : Int} {c2 : Option Cell} : L__law_draw_2 [some (.pin p (pl cells a b c s)), some (.dat (.int m)), c2, some (.dat (.int x)), none] = .nx [some (.pin p (pl cells a b c s)), some (.dat (.int m)), c2, some (.dat (.int ((x * 16807 + c) % 2147483629))), none] := by
  simp only [L__law_draw_2, ev_fBin, ev_fUn, ev_fCons, ev_fApp, ev_fTup, ev_fLst, ev_fOfL, ev_fTest, ev_fAnd, ev_fOr, ev_fNot, ev_fAndV, ev_fOrV, ev_fNotV, ev_fIf, ev_fFrz, ev_fIter, ev_gSeq, ev_gRet, ev_gIf, ev_gSet, ev_gOwn, ev_gAsg, ev_gPar, ev_gParO, ev_gAug, ev_gApp, ev_gExt, ev_gPut, ev_gFor, ev_fSl, ev_fPart, ev_fRepL, ev_fChain, ev_run, ev_fRng1, ev_fRng2, ev_fRng3, ev_fRgL, ev_fRgT, ev_fRg1, ev_fRg2, ev_fSortSet, ev_tFrz, ev_frz_cons, ev_frz_nil, ev_var0, ev_varS, ev_C, ev_nil, ev_yes, ev_noPart, ev_next, ev_break, ev_cont, ev_no, ev_name, ev_tup2, frzC, wipeE, startE, List.length_cons, List.length_nil, List.map_cons, List.map_nil, List.replicate_succ, List.replicate_zero, List.cons_append, List.nil_append, List.getElem?_cons_zero, List.getElem?_cons_succ, List.set_cons_zero, List.set_cons_succ, Option.map_some, Option.map_none, Nat.reduceAdd, Nat.reduceSub, Nat.reduceLeDiff, if_true, ite_true, ite_false, Nat.zero_add, Nat.add_zero, Nat.sub_self, Nat.sub_zero, frzC, p3, dAdd_ii, lf_int, dMul_r s4, dInt_i, dMod_ok (show (0 : Int) < 2147483629 by decide)]
theorem d1 {p : Addr} {cells : List Int} {a b c s m : Int} {c2 : Option Cell} (hm : 0 < m) : L__law_draw_1 [some (.pin p (pl cells a b c s)), some (.dat (.int m)), c2, none, none] = .nx [some (.pin p (pl cells a b c s)), some (.dat (.int m)), c2, none, some (.dat (.int (b % m)))] := by
  simp only [L__law_draw_1, ev_fBin, ev_fUn, ev_fCons, ev_fApp, ev_fTup, ev_fLst, ev_fOfL, ev_fTest, ev_fAnd, ev_fOr, ev_fNot, ev_fAndV, ev_fOrV, ev_fNotV, ev_fIf, ev_fFrz, ev_fIter, ev_gSeq, ev_gRet, ev_gIf, ev_gSet, ev_gOwn, ev_gAsg, ev_gPar, ev_gParO, ev_gAug, ev_gApp, ev_gExt, ev_gPut, ev_gFor, ev_fSl, ev_fPart, ev_fRepL, ev_fChain, ev_run, ev_fRng1, ev_fRng2, ev_fRng3, ev_fRgL, ev_fRgT, ev_fRg1, ev_fRg2, ev_fSortSet, ev_tFrz, ev_frz_cons, ev_frz_nil, ev_var0, ev_varS, ev_C, ev_nil, ev_yes, ev_noPart, ev_next, ev_break, ev_cont, ev_no, ev_name, ev_tup2, frzC, wipeE, startE, List.length_cons, List.length_nil, List.map_cons, List.map_nil, List.replicate_succ, List.replicate_zero, List.cons_append, List.nil_append, List.getElem?_cons_zero, List.getElem?_cons_succ, List.set_cons_zero, List.set_cons_succ, Option.map_some, Option.map_none, Nat.reduceAdd, Nat.reduceSub, Nat.reduceLeDiff, if_true, ite_true, ite_false, Nat.zero_add, Nat.add_zero, Nat.sub_self, Nat.sub_zero, frzC, p2, lf_int, dInt_i, dMod_ok hm]
theorem d0 {p : Addr} {cells : List Int} {a b c s m : Int} {c2 c4 : Option Cell} (hm : 0 < m ∧ m < 1073741824) : L__law_draw_0 [some (.pin p (pl cells a b c s)), some (.dat (.int m)), c2, none, c4] = .nx [some (.pin p (pl cells a (b / m) c s)), some (.dat (.int m)), c2, none, c4] := by
  simp only [L__law_draw_0, ev_fBin, ev_fUn, ev_fCons, ev_fApp, ev_fTup, ev_fLst, ev_fOfL, ev_fTest, ev_fAnd, ev_fOr, ev_fNot, ev_fAndV, ev_fOrV, ev_fNotV, ev_fIf, ev_fFrz, ev_fIter, ev_gSeq, ev_gRet, ev_gIf, ev_gSet, ev_gOwn, ev_gAsg, ev_gPar, ev_gParO, ev_gAug, ev_gApp, ev_gExt, ev_gPut, ev_gFor, ev_fSl, ev_fPart, ev_fRepL, ev_fChain, ev_run, ev_fRng1, ev_fRng2, ev_fRng3, ev_fRgL, ev_fRgT, ev_fRg1, ev_fRg2, ev_fSortSet, ev_tFrz, ev_frz_cons, ev_frz_nil, ev_var0, ev_varS, ev_C, ev_nil, ev_yes, ev_noPart, ev_next, ev_break, ev_cont, ev_no, ev_name, ev_tup2, frzC, wipeE, startE, List.length_cons, List.length_nil, List.map_cons, List.map_nil, List.replicate_succ, List.replicate_zero, List.cons_append, List.nil_append, List.getElem?_cons_zero, List.getElem?_cons_succ, List.set_cons_zero, List.set_cons_succ, Option.map_some, Option.map_none, Nat.reduceAdd, Nat.reduceSub, Nat.reduceLeDiff, if_true, ite_true, ite_false, Nat.zero_add, Nat.add_zero, Nat.sub_self, Nat.sub_zero, ev_gPutP, frzC, p2, lf_int, dDiv_ok hm, pl_len, ix2, set2]
theorem hw__law_draw : ∀ (p : Addr) (pds ds : List D) (Φ : D → Prop), PoolOk pds → R__law_draw ds Φ → W__law_draw (startP 4 p pds ds) fun o => ∃ d ρ' pds', o = .rt d ρ' ∧ Φ d ∧ ρ'[0]? = some (some (.pin p pds')) ∧ PoolOk pds' := by
  rintro p pds ds Φ ⟨cells, a, b, c, s, rfl, ha, hlen⟩ ⟨m, rfl, hm, hm2, k⟩
  obtain ⟨a', b', c2, ha', e5⟩ := d5 (p := p) (cells := cells) (a := a) (b := b) (c := c) (s := s) (m := m) ha
  refine wSeq_lift e5 (wSeq_lift d4 ?_)
  by_cases h : b' ≤ 0
  · refine wSeq_of (wIf_t (tb.trans (congrArg some (decide_eq_true h))) (wSeq_lift d3 (wSeq_lift d2 ?_)))
    refine ⟨.int ((((s * 48271 + (c + 1) * 69621 + 1) % 2147483647 * 16807 + (c + 1)) % 2147483629 / 5) % m), ?_, _, _, _, rfl, k _ (Int.emod_nonneg _ (by omega)) (Int.emod_lt_of_pos _ hm), rfl, cells, a', b', c + 1, s, rfl, ha', hlen⟩
    simp only [ev_fBin, ev_fUn, ev_fCons, ev_fApp, ev_fTup, ev_fLst, ev_fOfL, ev_fTest, ev_fAnd, ev_fOr, ev_fNot, ev_fAndV, ev_fOrV, ev_fNotV, ev_fIf, ev_fFrz, ev_fIter, ev_gSeq, ev_gRet, ev_gIf, ev_gSet, ev_gOwn, ev_gAsg, ev_gPar, ev_gParO, ev_gAug, ev_gApp, ev_gExt, ev_gPut, ev_gFor, ev_fSl, ev_fPart, ev_fRepL, ev_fChain, ev_run, ev_fRng1, ev_fRng2, ev_fRng3, ev_fRgL, ev_fRgT, ev_fRg1, ev_fRg2, ev_fSortSet, ev_tFrz, ev_frz_cons, ev_frz_nil, ev_var0, ev_varS, ev_C, ev_nil, ev_yes, ev_noPart, ev_next, ev_break, ev_cont, ev_no, ev_name, ev_tup2, frzC, wipeE, startE, List.length_cons, List.length_nil, List.map_cons, List.map_nil, List.replicate_succ, List.replicate_zero, List.cons_append, List.nil_append, List.getElem?_cons_zero, List.getElem?_cons_succ, List.set_cons_zero, List.set_cons_succ, Option.map_some, Option.map_none, Nat.reduceAdd, Nat.reduceSub, Nat.reduceLeDiff, if_true, ite_true, ite_false, Nat.zero_add, Nat.add_zero, Nat.sub_self, Nat.sub_zero, dDiv_ok (show (0 : Int) < 5 ∧ (5 : Int) < 1073741824 by decide), dMod_ok hm]
  · refine wSeq_of (wIf_f (tb.trans (congrArg some (decide_eq_false h))) (wSeq_lift (d1 hm) (wSeq_lift (d0 ⟨hm, hm2⟩) ?_)))
    exact ⟨.int (b' % m), rfl, _, _, _, rfl, k _ (Int.emod_nonneg _ (by omega)) (Int.emod_lt_of_pos _ hm), rfl, cells, a', b' / m, c + 1, s, rfl, ha', hlen⟩
theorem pins_of {p : Addr} {pds : List D} {ρ : Env} (h : ∀ c ∈ ρ, ∀ q es, c ≠ some (.pin q es)) (a : Addr) (z : Pinned (some (.pin p pds) :: ρ) a) : a = p := by
  obtain ⟨i, es, e⟩ := z
  cases i with
  | zero =>
    have e1 := Option.some.inj (Option.some.inj (show some (some (Cell.pin p pds)) = some (some (.pin a es)) from e))
    injection e1 with e2 _
    exact e2.symm
  | succ i =>
    have e1 : ρ[i]? = some (some (.pin a es)) := e
    exact absurd rfl (h _ (List.mem_of_getElem? e1) a es)
theorem rngD_len {lo : Int} {n : Nat} : (rngD lo n).length = n := by unfold rngD; rw [List.length_map, List.length_range]
end Wd

set_option Elab.async false
set_option linter.all false
set_option maxRecDepth 100000
set_option maxHeartbeats 4000000
set_option autoImplicit false
/-! what the pool's defs keep to: word, cell -/
namespace Wd
open PySem PyProof.Rows L2 Mt
theorem all2_words {n : Int} : ∀ {ds : List D} {os : List (Option D)}, All2 (fun _ o => ∃ x : Int, o = some (.int x) ∧ 0 ≤ x ∧ x < n) ds os → ∃ w : Wrd, os.filterMap id = w.map .int ∧ inR n w ∧ w.length = ds.length
  | _, _, .nil => ⟨[], rfl, fun a h => (by cases h), rfl⟩
  | _, _, .cons ⟨x, rfl, h1, h2⟩ t => by
    obtain ⟨w, e1, e2, e3⟩ := all2_words t
    refine ⟨x :: w, ?_, inR_cons.mpr ⟨⟨h1, h2⟩, e2⟩, by simp [e3]⟩
    rw [List.filterMap_cons]
    simp [e1]
theorem len__law_word : ∀ (ds : List D) (Φ : D → Prop), R__law_word ds Φ → ds.length + 1 = 3 := by
  rintro ds Φ ⟨n, m, rfl, _⟩
  rfl
theorem hw__law_word : ∀ (p : Addr) (pds ds : List D) (Φ : D → Prop), PoolOk pds → R__law_word ds Φ → W__law_word (startP 3 p pds ds) fun o => ∃ d ρ' pds', o = .rt d ρ' ∧ Φ d ∧ ρ'[0]? = some (some (.pin p pds')) ∧ PoolOk pds' := by
  rintro p pds ds Φ po ⟨n, most, rfl, hn, hn2, hm, hm2, k⟩
  refine ⟨p, pds, [.int (most + 1)], rfl, po, rfl, most + 1, rfl, by omega, by omega, fun r hr0 hr pds1 po1 => ?_⟩
  refine ⟨[], rfl, r, rfl, okI_of (by omega) (by omega), ?_⟩
  refine ⟨p, pds1, fun _ o => ∃ x : Int, o = some (.int x) ∧ 0 ≤ x ∧ x < n, rfl, po1, by rw [rngD_len]; omega, pins_of (fun c hc q es e => ?_), fun c hc pds2 po2 => ?_, fun os pds3 h2 po3 => ?_⟩
  · have hc' : c ∈ ([some (.dat (.int n)), some (.dat (.int most)), none] : Env) := hc
    simp only [List.mem_cons, List.not_mem_nil, or_false] at hc'
    rcases hc' with z | z | z <;> (rw [e] at z; cases z)
  · refine ⟨_, rfl, pins_of (fun c' hc2 q es e => ?_), ?_⟩
    · have hc' : c' ∈ ([some (.dat (.int n)), some (.dat (.int most)), some (.dat c)] : Env) := hc2
      simp only [List.mem_cons, List.not_mem_nil, or_false] at hc'
      rcases hc' with z | z | z <;> (rw [e] at z; cases z)
    · refine ⟨true, rfl, ?_⟩
      simp only [if_true]
      exact ⟨p, pds2, [.int n], rfl, po2, rfl, n, rfl, hn, by omega, fun x h1 h2 pds3 po3 => ⟨⟨x, rfl, h1, h2⟩, pds3, rfl, po3⟩⟩
  · obtain ⟨w, e1, e2, e3⟩ := all2_words h2
    rw [rngD_len] at e3
    rw [e1]
    exact ⟨[], rfl, kT w, rfl, _, _, pds3, rfl, k w e2 (by omega), rfl, po3⟩
theorem len__law_cell : ∀ (ds : List D) (Φ : D → Prop), R__law_cell ds Φ → ds.length + 1 = 3 := by
  rintro ds Φ ⟨n, m, rfl, _⟩
  rfl
theorem hw__law_cell : ∀ (p : Addr) (pds ds : List D) (Φ : D → Prop), PoolOk pds → R__law_cell ds Φ → W__law_cell (startP 2 p pds ds) fun o => ∃ d ρ' pds', o = .rt d ρ' ∧ Φ d ∧ ρ'[0]? = some (some (.pin p pds')) ∧ PoolOk pds' := by
  rintro p pds ds Φ po ⟨n, most, rfl, hn, hn2, hm, hm2, k⟩
  refine ⟨.int n, rfl, p, pds, [.int n, .int most], rfl, po, rfl, n, most, rfl, by omega, hn2, hm, hm2, fun w hw hl pds1 po1 => ?_⟩
  have hlen : w.length ≤ 1000 := by omega
  refine ⟨[], rfl, kT (nf n w), m_law_form hn hn2 hw hlen, _, _, pds1, rfl, k _ (nf_nf hn hw) ?_, rfl, po1⟩
  have := nf_len_le (n := n) (w := w)
  omega
end Wd

set_option Elab.async false
set_option linter.all false
set_option maxRecDepth 100000
set_option maxHeartbeats 4000000
set_option autoImplicit false
/-! _law_same at equal data -/
namespace Wd
open PySem PyProof.Rows L2 Mt
theorem it_t {ds : List D} : dIsi "tuple" (.tuple ds) = some (.bool true) := by with_unfolding_all rfl
theorem it_l {ds : List D} : dIsi "tuple" (.list ds) = some (.bool false) := by with_unfolding_all rfl
theorem it_n : dIsi "tuple" .none = some (.bool false) := by with_unfolding_all rfl
theorem it_b {b : Bool} : dIsi "tuple" (.bool b) = some (.bool false) := by with_unfolding_all rfl
theorem it_i {b : Int} : dIsi "tuple" (.int b) = some (.bool false) := by with_unfolding_all rfl
theorem it_s {b : Str} : dIsi "tuple" (.str b) = some (.bool false) := by with_unfolding_all rfl
theorem il_t {ds : List D} : dIsi "list" (.tuple ds) = some (.bool false) := by with_unfolding_all rfl
theorem il_l {ds : List D} : dIsi "list" (.list ds) = some (.bool true) := by with_unfolding_all rfl
theorem il_n : dIsi "list" .none = some (.bool false) := by with_unfolding_all rfl
theorem il_b {b : Bool} : dIsi "list" (.bool b) = some (.bool false) := by with_unfolding_all rfl
theorem il_i {b : Int} : dIsi "list" (.int b) = some (.bool false) := by with_unfolding_all rfl
theorem il_s {b : Str} : dIsi "list" (.str b) = some (.bool false) := by with_unfolding_all rfl
theorem ib_b {b : Bool} : dIsi "bool" (.bool b) = some (.bool true) := by with_unfolding_all rfl
theorem ib_i {b : Int} : dIsi "bool" (.int b) = some (.bool false) := by with_unfolding_all rfl
theorem ib_s {b : Str} : dIsi "bool" (.str b) = some (.bool false) := by with_unfolding_all rfl
theorem ii_i {b : Int} : dIsi "int" (.int b) = some (.bool true) := by with_unfolding_all rfl
theorem ii_s {b : Str} : dIsi "int" (.str b) = some (.bool false) := by with_unfolding_all rfl
theorem is_s {b : Str} : dIsi "str" (.str b) = some (.bool true) := by with_unfolding_all rfl
theorem dNe_bb {a b : Bool} : dNe (.bool a) (.bool b) = some (.bool (!(a == b))) := rfl
theorem dEq_bb {a b : Bool} : dEq (.bool a) (.bool b) = some (.bool (a == b)) := rfl
mutual
/-- data that are told alike to themselves -/
def good : D → Bool
  | .none => true
  | .bool _ => true
  | .int _ => true
  | .list ds => decide (ds.length ≤ 100000) && goodAll ds
  | .tuple ds => decide (ds.length ≤ 100000) && goodAll ds
  | _ => false
def goodAll : List D → Bool
  | [] => true
  | d :: ds => good d && goodAll ds
end
mutual
def dep : D → Nat
  | .list ds => depAll ds + 1
  | .tuple ds => depAll ds + 1
  | _ => 0
def depAll : List D → Nat
  | [] => 0
  | d :: ds => max (dep d) (depAll ds)
end
theorem good_at : ∀ {ds : List D} {i : Nat} {d : D}, goodAll ds = true → ds[i]? = some d → good d = true ∧ dep d ≤ depAll ds
  | [], _, _, _, e => by simp at e
  | x :: ds, i, d, h, e => by
    have h' : (good x && goodAll ds) = true := h
    rw [Bool.and_eq_true] at h'
    have hm : depAll (x :: ds) = max (dep x) (depAll ds) := rfl
    cases i with
    | zero => obtain rfl := Option.some.inj e; exact ⟨h'.1, by omega⟩
    | succ i =>
      obtain ⟨a, b⟩ := good_at h'.2 e
      exact ⟨a, by omega⟩
theorem c_same {rec : List D → Option D} {d : D} {ds : List D} (hl : ds.length ≤ 100000) (h1 : dLen [d] = some (.int ds.length)) (h2 : ∀ k : Nat, k < ds.length → ∃ e, dIx d (.int (k : Int)) = some e ∧ rec [e, e] = some (.bool true)) :
    C__law_same_0 rec [some (.dat d), some (.dat d), none] = some [] := by
  have e := fLc_opt (l := List.range ds.length) (i := fun k : Nat => PyData.int ((0 : Int) + (k : Int))) (o := fun _ => none) (L := fRng1 (fCons (fApp dLen (fCons (fVar 1) fNil)) fNil)) (vs := [2]) (g := sName 2) (T := fNot (fTest (fApp rec (fCons (fBin dIx (fVar 0) (fVar 2)) (fCons (fBin dIx (fVar 1) (fVar 2)) fNil))))) (E := fVar 2)
    (ρ := [some (.dat d), some (.dat d), none]) (by simp only [ev_fBin, ev_fUn, ev_fCons, ev_fApp, ev_fTup, ev_fLst, ev_fOfL, ev_fTest, ev_fAnd, ev_fOr, ev_fNot, ev_fAndV, ev_fOrV, ev_fNotV, ev_fIf, ev_fFrz, ev_fIter, ev_gSeq, ev_gRet, ev_gIf, ev_gSet, ev_gOwn, ev_gAsg, ev_gPar, ev_gParO, ev_gAug, ev_gApp, ev_gExt, ev_gPut, ev_gFor, ev_fSl, ev_fPart, ev_fRepL, ev_fChain, ev_run, ev_fRng1, ev_fRng2, ev_fRng3, ev_fRgL, ev_fRgT, ev_fRg1, ev_fRg2, ev_fSortSet, ev_tFrz, ev_frz_cons, ev_frz_nil, ev_var0, ev_varS, ev_C, ev_nil, ev_yes, ev_noPart, ev_next, ev_break, ev_cont, ev_no, ev_name, ev_tup2, frzC, wipeE, startE, List.length_cons, List.length_nil, List.map_cons, List.map_nil, List.replicate_succ, List.replicate_zero, List.cons_append, List.nil_append, List.getElem?_cons_zero, List.getElem?_cons_succ, List.set_cons_zero, List.set_cons_succ, Option.map_some, Option.map_none, Nat.reduceAdd, Nat.reduceSub, Nat.reduceLeDiff, if_true, ite_true, ite_false, Nat.zero_add, Nat.add_zero, Nat.sub_self, Nat.sub_zero, h1, okI_nat hl, Int.toNat_natCast, rngD_map]) (by rw [List.length_range]; exact hl) (fun k hk => by
      obtain ⟨x, e1, e2⟩ := h2 k (List.mem_range.mp hk)
      simp only [ev_lcTurn, ev_fBin, ev_fUn, ev_fCons, ev_fApp, ev_fTup, ev_fLst, ev_fOfL, ev_fTest, ev_fAnd, ev_fOr, ev_fNot, ev_fAndV, ev_fOrV, ev_fNotV, ev_fIf, ev_fFrz, ev_fIter, ev_gSeq, ev_gRet, ev_gIf, ev_gSet, ev_gOwn, ev_gAsg, ev_gPar, ev_gParO, ev_gAug, ev_gApp, ev_gExt, ev_gPut, ev_gFor, ev_fSl, ev_fPart, ev_fRepL, ev_fChain, ev_run, ev_fRng1, ev_fRng2, ev_fRng3, ev_fRgL, ev_fRgT, ev_fRg1, ev_fRg2, ev_fSortSet, ev_tFrz, ev_frz_cons, ev_frz_nil, ev_var0, ev_varS, ev_C, ev_nil, ev_yes, ev_noPart, ev_next, ev_break, ev_cont, ev_no, ev_name, ev_tup2, frzC, wipeE, startE, List.length_cons, List.length_nil, List.map_cons, List.map_nil, List.replicate_succ, List.replicate_zero, List.cons_append, List.nil_append, List.getElem?_cons_zero, List.getElem?_cons_succ, List.set_cons_zero, List.set_cons_succ, Option.map_some, Option.map_none, Nat.reduceAdd, Nat.reduceSub, Nat.reduceLeDiff, if_true, ite_true, ite_false, Nat.zero_add, Nat.add_zero, Nat.sub_self, Nat.sub_zero, Int.zero_add, e1, e2, Bool.not_true])
  rw [show ((List.range ds.length).filterMap fun _ => (none : Option D)) = [] from List.filterMap_eq_nil_iff.mpr fun _ _ => rfl] at e
  exact e
theorem m_same : ∀ (j : Nat) (d : D), good d = true → dep d < j → F__law_same j [d, d] = some (.bool true) := by
  intro j
  induction j with
  | zero => intro d _ h; exact absurd h (Nat.not_lt_zero _)
  | succ j ih =>
    intro d hg hd
    show run 3 2 (G__law_same (F__law_same j)) [d, d] = _
    cases d with
    | none => simp only [G__law_same, ev_fBin, ev_fUn, ev_fCons, ev_fApp, ev_fTup, ev_fLst, ev_fOfL, ev_fTest, ev_fAnd, ev_fOr, ev_fNot, ev_fAndV, ev_fOrV, ev_fNotV, ev_fIf, ev_fFrz, ev_fIter, ev_gSeq, ev_gRet, ev_gIf, ev_gSet, ev_gOwn, ev_gAsg, ev_gPar, ev_gParO, ev_gAug, ev_gApp, ev_gExt, ev_gPut, ev_gFor, ev_fSl, ev_fPart, ev_fRepL, ev_fChain, ev_run, ev_fRng1, ev_fRng2, ev_fRng3, ev_fRgL, ev_fRgT, ev_fRg1, ev_fRg2, ev_fSortSet, ev_tFrz, ev_frz_cons, ev_frz_nil, ev_var0, ev_varS, ev_C, ev_nil, ev_yes, ev_noPart, ev_next, ev_break, ev_cont, ev_no, ev_name, ev_tup2, frzC, wipeE, startE, List.length_cons, List.length_nil, List.map_cons, List.map_nil, List.replicate_succ, List.replicate_zero, List.cons_append, List.nil_append, List.getElem?_cons_zero, List.getElem?_cons_succ, List.set_cons_zero, List.set_cons_succ, Option.map_some, Option.map_none, Nat.reduceAdd, Nat.reduceSub, Nat.reduceLeDiff, if_true, ite_true, ite_false, Nat.zero_add, Nat.add_zero, Nat.sub_self, Nat.sub_zero, it_n, il_n, dIsN]
    | bool b => simp only [G__law_same, ev_fBin, ev_fUn, ev_fCons, ev_fApp, ev_fTup, ev_fLst, ev_fOfL, ev_fTest, ev_fAnd, ev_fOr, ev_fNot, ev_fAndV, ev_fOrV, ev_fNotV, ev_fIf, ev_fFrz, ev_fIter, ev_gSeq, ev_gRet, ev_gIf, ev_gSet, ev_gOwn, ev_gAsg, ev_gPar, ev_gParO, ev_gAug, ev_gApp, ev_gExt, ev_gPut, ev_gFor, ev_fSl, ev_fPart, ev_fRepL, ev_fChain, ev_run, ev_fRng1, ev_fRng2, ev_fRng3, ev_fRgL, ev_fRgT, ev_fRg1, ev_fRg2, ev_fSortSet, ev_tFrz, ev_frz_cons, ev_frz_nil, ev_var0, ev_varS, ev_C, ev_nil, ev_yes, ev_noPart, ev_next, ev_break, ev_cont, ev_no, ev_name, ev_tup2, frzC, wipeE, startE, List.length_cons, List.length_nil, List.map_cons, List.map_nil, List.replicate_succ, List.replicate_zero, List.cons_append, List.nil_append, List.getElem?_cons_zero, List.getElem?_cons_succ, List.set_cons_zero, List.set_cons_succ, Option.map_some, Option.map_none, Nat.reduceAdd, Nat.reduceSub, Nat.reduceLeDiff, if_true, ite_true, ite_false, Nat.zero_add, Nat.add_zero, Nat.sub_self, Nat.sub_zero, it_b, il_b, ib_b, dIsN, dEq_bb]; simp
    | int i => simp only [G__law_same, ev_fBin, ev_fUn, ev_fCons, ev_fApp, ev_fTup, ev_fLst, ev_fOfL, ev_fTest, ev_fAnd, ev_fOr, ev_fNot, ev_fAndV, ev_fOrV, ev_fNotV, ev_fIf, ev_fFrz, ev_fIter, ev_gSeq, ev_gRet, ev_gIf, ev_gSet, ev_gOwn, ev_gAsg, ev_gPar, ev_gParO, ev_gAug, ev_gApp, ev_gExt, ev_gPut, ev_gFor, ev_fSl, ev_fPart, ev_fRepL, ev_fChain, ev_run, ev_fRng1, ev_fRng2, ev_fRng3, ev_fRgL, ev_fRgT, ev_fRg1, ev_fRg2, ev_fSortSet, ev_tFrz, ev_frz_cons, ev_frz_nil, ev_var0, ev_varS, ev_C, ev_nil, ev_yes, ev_noPart, ev_next, ev_break, ev_cont, ev_no, ev_name, ev_tup2, frzC, wipeE, startE, List.length_cons, List.length_nil, List.map_cons, List.map_nil, List.replicate_succ, List.replicate_zero, List.cons_append, List.nil_append, List.getElem?_cons_zero, List.getElem?_cons_succ, List.set_cons_zero, List.set_cons_succ, Option.map_some, Option.map_none, Nat.reduceAdd, Nat.reduceSub, Nat.reduceLeDiff, if_true, ite_true, ite_false, Nat.zero_add, Nat.add_zero, Nat.sub_self, Nat.sub_zero, it_i, il_i, ib_i, ii_i, dIsN, dEq_ii]; simp
    | str x => cases hg
    | dict x => cases hg
    | list ds =>
      have hg' : (decide (ds.length ≤ 100000) && goodAll ds) = true := hg
      rw [Bool.and_eq_true, decide_eq_true_eq] at hg'
      have hd' : depAll ds + 1 < j + 1 := hd
      have ec := c_same (rec := F__law_same j) (d := .list ds) hg'.1 rfl fun k hk => by
        have e1 : ds[k]? = some ds[k] := List.getElem?_eq_getElem hk
        obtain ⟨g1, g2⟩ := good_at hg'.2 e1
        exact ⟨ds[k], (atI_nat hk).trans e1, ih _ g1 (by omega)⟩
      have ef : frz [some (.dat (.list ds)), some (.dat (.list ds)), none] = [some (.dat (.list ds)), some (.dat (.list ds)), none] := rfl
      simp only [G__law_same, ev_fBin, ev_fUn, ev_fCons, ev_fApp, ev_fTup, ev_fLst, ev_fOfL, ev_fTest, ev_fAnd, ev_fOr, ev_fNot, ev_fAndV, ev_fOrV, ev_fNotV, ev_fIf, ev_fFrz, ev_fIter, ev_gSeq, ev_gRet, ev_gIf, ev_gSet, ev_gOwn, ev_gAsg, ev_gPar, ev_gParO, ev_gAug, ev_gApp, ev_gExt, ev_gPut, ev_gFor, ev_fSl, ev_fPart, ev_fRepL, ev_fChain, ev_run, ev_fRng1, ev_fRng2, ev_fRng3, ev_fRgL, ev_fRgT, ev_fRg1, ev_fRg2, ev_fSortSet, ev_tFrz, ev_frz_cons, ev_frz_nil, ev_var0, ev_varS, ev_C, ev_nil, ev_yes, ev_noPart, ev_next, ev_break, ev_cont, ev_no, ev_name, ev_tup2, frzC, wipeE, startE, List.length_cons, List.length_nil, List.map_cons, List.map_nil, List.replicate_succ, List.replicate_zero, List.cons_append, List.nil_append, List.getElem?_cons_zero, List.getElem?_cons_succ, List.set_cons_zero, List.set_cons_succ, Option.map_some, Option.map_none, Nat.reduceAdd, Nat.reduceSub, Nat.reduceLeDiff, if_true, ite_true, ite_false, Nat.zero_add, Nat.add_zero, Nat.sub_self, Nat.sub_zero, frzC, ef, it_l, il_l, dNe_bb, dNe_ii, dLen_l, ec, dEq_ii, beq_self_eq_true, Bool.not_true]
      first | done | rfl | trace_state
    | tuple ds =>
      have hg' : (decide (ds.length ≤ 100000) && goodAll ds) = true := hg
      rw [Bool.and_eq_true, decide_eq_true_eq] at hg'
      have hd' : depAll ds + 1 < j + 1 := hd
      have ec := c_same (rec := F__law_same j) (d := .tuple ds) hg'.1 rfl fun k hk => by
        have e1 : ds[k]? = some ds[k] := List.getElem?_eq_getElem hk
        obtain ⟨g1, g2⟩ := good_at hg'.2 e1
        exact ⟨ds[k], (atI_nat hk).trans e1, ih _ g1 (by omega)⟩
      have ef : frz [some (.dat (.tuple ds)), some (.dat (.tuple ds)), none] = [some (.dat (.tuple ds)), some (.dat (.tuple ds)), none] := rfl
      simp only [G__law_same, ev_fBin, ev_fUn, ev_fCons, ev_fApp, ev_fTup, ev_fLst, ev_fOfL, ev_fTest, ev_fAnd, ev_fOr, ev_fNot, ev_fAndV, ev_fOrV, ev_fNotV, ev_fIf, ev_fFrz, ev_fIter, ev_gSeq, ev_gRet, ev_gIf, ev_gSet, ev_gOwn, ev_gAsg, ev_gPar, ev_gParO, ev_gAug, ev_gApp, ev_gExt, ev_gPut, ev_gFor, ev_fSl, ev_fPart, ev_fRepL, ev_fChain, ev_run, ev_fRng1, ev_fRng2, ev_fRng3, ev_fRgL, ev_fRgT, ev_fRg1, ev_fRg2, ev_fSortSet, ev_tFrz, ev_frz_cons, ev_frz_nil, ev_var0, ev_varS, ev_C, ev_nil, ev_yes, ev_noPart, ev_next, ev_break, ev_cont, ev_no, ev_name, ev_tup2, frzC, wipeE, startE, List.length_cons, List.length_nil, List.map_cons, List.map_nil, List.replicate_succ, List.replicate_zero, List.cons_append, List.nil_append, List.getElem?_cons_zero, List.getElem?_cons_succ, List.set_cons_zero, List.set_cons_succ, Option.map_some, Option.map_none, Nat.reduceAdd, Nat.reduceSub, Nat.reduceLeDiff, if_true, ite_true, ite_false, Nat.zero_add, Nat.add_zero, Nat.sub_self, Nat.sub_zero, frzC, ef, it_t, il_t, dNe_bb, dNe_ii, dLen_t, ec, dEq_ii, beq_self_eq_true, Bool.not_true]
      first | done | rfl | trace_state
end Wd

set_option Elab.async false
set_option linter.all false
set_option maxRecDepth 100000
set_option maxHeartbeats 4000000
set_option autoImplicit false
/-! data as it comes: rows, lists of rows -/
namespace Wd
open PySem PyProof.Rows L2 Mt
theorem eqv_ints : ∀ a b : List Int, PyData.eqvAll (a.map .int) (b.map .int) = decide (a = b)
  | [], [] => rfl
  | [], b :: bs => by simp [PyData.eqvAll]
  | a :: as, [] => by simp [PyData.eqvAll]
  | a :: as, b :: bs => by
    show ((a == b) && PyData.eqvAll (as.map .int) (bs.map .int)) = _
    rw [eqv_ints as bs, Bool.eq_iff_iff, Bool.and_eq_true, beq_iff_eq, decide_eq_true_eq, decide_eq_true_eq, List.cons.injEq]
theorem eqv_kT {a b : Wrd} : PyData.eqv (kT a) (kT b) = decide (a = b) := eqv_ints a b
theorem lay_kT {a : Wrd} : PyData.canLay0 (kT a) = true ∧ PyData.depth (kT a) ≤ 1 := by
  have := shaped_ints a
  have h : (PyData.canLayAll0 (a.map .int) && decide (PyData.depthAll (a.map .int) + 1 ≤ 64)) = true := this
  rw [Bool.and_eq_true] at h
  refine ⟨h.1, ?_⟩
  have : ∀ l : List Int, PyData.depthAll (l.map .int) = 0 := by
    intro l
    induction l with
    | nil => rfl
    | cons a l ih =>
      show max (PyData.depth (.int a)) (PyData.depthAll (l.map .int)) = 0
      rw [ih]; rfl
  show PyData.depthAll (a.map .int) + 1 ≤ 1
  rw [this]
  exact Nat.le_refl _
theorem shaped_kT {a : Wrd} : SeqAt.shaped (kT a) = true := by
  unfold SeqAt.shaped
  rw [lay_kT.1, Bool.true_and, decide_eq_true_eq]
  have := (lay_kT (a := a)).2
  omega

theorem dEq_kT {a b : Wrd} : dEq (kT a) (kT b) = some (.bool (decide (a = b))) := by
  unfold dEq
  rw [shaped_kT, shaped_kT, eqv_kT]
  rfl
theorem dNe_kT {a b : Wrd} : dNe (kT a) (kT b) = some (.bool (!decide (a = b))) := by
  unfold dNe
  rw [shaped_kT, shaped_kT, eqv_kT]
  rfl

open PySem.W (alike dataLt)
theorem okSort_rows {ws : List Wrd} : okSort (ws.map kT) = true := by
  unfold okSort
  rw [Bool.and_eq_true, Bool.and_eq_true]
  refine ⟨⟨List.all_eq_true.mpr fun a ha => List.all_eq_true.mpr fun b hb => ?_, List.all_eq_true.mpr fun a ha => ?_⟩, List.all_eq_true.mpr fun a ha => ?_⟩
  · obtain ⟨p, _, rfl⟩ := List.mem_map.mp ha
    obtain ⟨q, _, rfl⟩ := List.mem_map.mp hb
    exact alike_row p q
  · obtain ⟨p, _, rfl⟩ := List.mem_map.mp ha
    rfl
  · obtain ⟨p, _, rfl⟩ := List.mem_map.mp ha
    have := (lay_kT (a := p)).2
    exact decide_eq_true (by omega)
theorem sort_rows {ws : List Wrd} : (ws.map kT).mergeSort leD = (ws.mergeSort leK).map kT := by
  have := List.map_mergeSort (f := kT) (r := leK) (s := leD) (l := ws) (fun a _ b _ => (leK_eq a b).symm)
  exact this.symm
theorem dSorted_l {ws : List Wrd} : dSorted [.list (ws.map kT)] = some (.list ((ws.mergeSort leK).map kT)) := by
  show (if okSort (ws.map kT) = true then _ else _) = _
  rw [if_pos okSort_rows, sort_rows]
theorem dSorted_t {ws : List Wrd} : dSorted [.tuple (ws.map kT)] = some (.list ((ws.mergeSort leK).map kT)) := by
  show (if okSort (ws.map kT) = true then _ else _) = _
  rw [if_pos okSort_rows, sort_rows]
theorem sort_perm {l m : List Wrd} (p : l.Perm m) : l.mergeSort leK = m.mergeSort leK :=
  rows_same ((List.mergeSort_perm l leK).trans (p.trans (List.mergeSort_perm m leK).symm)) (sortK_pw l) (sortK_pw m)

theorem rowsOf_map : ∀ ws : List Wrd, rowsOf (ws.map kT) = some ws
  | [] => rfl
  | w :: ws => by
    have e : rowOf (kT w) = some w := by
      show intsOf (w.map .int) = some w
      have := intsOf_map (p := id) w
      simpa using this
    show (match rowOf (kT w) with
      | some k => match rowsOf (ws.map kT) with
        | some ks => some (k :: ks)
        | none => none
      | none => none) = _
    rw [e, rowsOf_map ws]
theorem sortRows_len {ws : List Wrd} : (sortRows ws).length = (dedup ws).length := by
  unfold sortRows
  rw [List.length_mergeSort]
theorem dedup_le : ∀ ws : List Wrd, (dedup ws).length ≤ ws.length
  | [] => Nat.le_refl _
  | w :: ws => by
    unfold dedup
    have ih := dedup_le ws
    split
    · exact Nat.le_succ_of_le ih
    · exact Nat.succ_le_succ ih
theorem dSortSet_few {ws : List Wrd} (h : (dedup ws).length ≤ 306) : dSortSet (.list (ws.map kT)) = some (.list ((sortRows ws).map kT)) := by
  show (match rowsOf (ws.map kT) with
    | some ks => (if (dedup ks).length ≤ 306 then some (PyData.list ((sortRows ks).map kT)) else none : Option D)
    | none => match rows2Of (ws.map kT) with
      | some ks => (if (dedup2 ks).length ≤ 306 then some (.list ((sortRows2 ks).map kT2)) else none : Option D)
      | none => none) = _
  rw [rowsOf_map]
  exact if_pos h
theorem dSortSet_rows {ws : List Wrd} (h : ws.length < 64) : dSortSet (.list (ws.map kT)) = some (.list ((sortRows ws).map kT)) := dSortSet_few (by have := dedup_le ws; omega)
theorem dedup_len {α : Type} {f g : α → Wrd} : ∀ {l : List α}, (∀ a ∈ l, ∀ b ∈ l, f a = f b ↔ g a = g b) → (dedup (l.map f)).length = (dedup (l.map g)).length
  | [], _ => rfl
  | a :: l, h => by
    have ih := dedup_len (l := l) fun x hx y hy => h x (List.mem_cons_of_mem _ hx) y (List.mem_cons_of_mem _ hy)
    rw [List.map_cons, List.map_cons]
    unfold dedup
    have e : (l.map f).contains (f a) = (l.map g).contains (g a) := by
      rw [Bool.eq_iff_iff, List.contains_iff_mem, List.contains_iff_mem, List.mem_map, List.mem_map]
      constructor
      · rintro ⟨x, hx, e⟩
        exact ⟨x, hx, (h x (List.mem_cons_of_mem _ hx) a List.mem_cons_self).mp e⟩
      · rintro ⟨x, hx, e⟩
        exact ⟨x, hx, (h x (List.mem_cons_of_mem _ hx) a List.mem_cons_self).mpr e⟩
    rw [e]
    split
    · exact ih
    · rw [List.length_cons, List.length_cons, ih]

theorem goodAll_map {γ : Type} {f : γ → D} (h : ∀ a, good (f a) = true) : ∀ l : List γ, goodAll (l.map f) = true
  | [] => rfl
  | a :: l => by
    show (good (f a) && goodAll (l.map f)) = true
    rw [h, goodAll_map h l]; rfl
theorem depAll_map {γ : Type} {f : γ → D} {k : Nat} (h : ∀ a, dep (f a) ≤ k) : ∀ l : List γ, depAll (l.map f) ≤ k
  | [] => Nat.zero_le _
  | a :: l => Nat.max_le.mpr ⟨h a, depAll_map h l⟩
theorem good_ints {l : List Int} (h : l.length ≤ 100000) : good (.list (l.map .int)) = true ∧ dep (.list (l.map .int)) ≤ 1 := by
  refine ⟨?_, ?_⟩
  · show (decide ((l.map PyData.int).length ≤ 100000) && goodAll (l.map .int)) = true
    rw [List.length_map, decide_eq_true h, goodAll_map (fun _ => rfl)]; rfl
  · have := depAll_map (f := PyData.int) (k := 0) (fun _ => Nat.le_refl _) l
    show depAll (l.map .int) + 1 ≤ 1
    omega

theorem same_at (d : D) (hg : good d = true) (hd : dep d < 8) : F__law_same 8 [d, d] = some (.bool true) := m_same 8 d hg hd
theorem dSl_l {ds : List D} {k : Nat} : dSl (.list ds) none (some (k : Int)) = some (.list (ds.take k)) := by
  show some (PyData.list (cutL ds none (some (k : Int)))) = _
  rw [cutL_to]
theorem good_kTs {l : List Wrd} (h : l.length ≤ 100000) (hl : ∀ w ∈ l, w.length ≤ 100000) : good (.list (l.map kT)) = true ∧ dep (.list (l.map kT)) ≤ 2 := by
  have h1 : goodAll (l.map kT) = true ∧ depAll (l.map kT) ≤ 1 := by
    clear h
    induction l with
    | nil => exact ⟨rfl, Nat.zero_le _⟩
    | cons a l ih =>
      obtain ⟨i1, i2⟩ := ih fun w hw => hl w (List.mem_cons_of_mem _ hw)
      obtain ⟨g1, g2⟩ := good_ints (hl a List.mem_cons_self)
      have g1' : good (kT a) = true := g1
      have g2' : dep (kT a) ≤ 1 := g2
      refine ⟨?_, Nat.max_le.mpr ⟨g2', i2⟩⟩
      show (good (kT a) && goodAll (l.map kT)) = true
      rw [g1', i1]; rfl
  refine ⟨?_, ?_⟩
  · show (decide ((l.map kT).length ≤ 100000) && goodAll (l.map kT)) = true
    rw [List.length_map, decide_eq_true h, h1.1]; rfl
  · show depAll (l.map kT) + 1 ≤ 2
    omega

theorem dIx_end {ds : List D} {d : D} (h : ds.getLast? = some d) (hl : ds.length ≤ 100000) : dIx (.list ds) (.int (-1)) = some d := by
  have h0 : 0 < ds.length := by
    cases ds with
    | nil => cases h
    | cons a l => simp
  show atI ds (-1) = some d
  unfold atI ixN
  rw [if_neg (by omega), if_pos (by omega)]
  show ds[(_ : Nat)]? = some d
  rw [List.getLast?_eq_getElem?] at h
  rw [show (-1 + (ds.length : Int)).toNat = ds.length - 1 by omega]
  exact h
theorem rng_nat (k : Nat) : rngD 0 k = (List.range k).map fun (i : Nat) => PyData.int (i : Int) := by
  unfold rngD
  apply List.map_congr_left
  intro i _
  rw [Int.zero_add]

end Wd

set_option Elab.async false
set_option linter.all false
set_option maxRecDepth 100000
set_option maxHeartbeats 4000000
set_option autoImplicit false
/-! lists of rows -/
namespace Wd
open PySem PyProof.Rows L2 Mt
theorem rng_sidesX {n : Int} : rngD 0 n.toNat = (sides n).map PyData.int := by
  unfold rngD sides
  rw [List.map_map]
  apply List.map_congr_left
  intro i _
  show PyData.int ((0 : Int) + (i : Int)) = PyData.int (i : Int)
  rw [Int.zero_add]
theorem shaped_kTs (l : List Wrd) : SeqAt.shaped (.list (l.map kT)) = true := by
  have h1 : PyData.canLayAll0 (l.map kT) = true ∧ PyData.depthAll (l.map kT) ≤ 1 := by
    induction l with
    | nil => exact ⟨rfl, Nat.zero_le _⟩
    | cons a l ih =>
      refine ⟨?_, Nat.max_le.mpr ⟨(lay_kT (a := a)).2, ih.2⟩⟩
      show (PyData.canLay0 (kT a) && PyData.canLayAll0 (l.map kT)) = true
      rw [(lay_kT (a := a)).1, ih.1]; rfl
  show (PyData.canLayAll0 (l.map kT) && decide (PyData.depthAll (l.map kT) + 1 ≤ 64)) = true
  rw [h1.1, Bool.true_and, decide_eq_true_eq]
  omega
theorem shaped_kTt (l : List Wrd) : SeqAt.shaped (.tuple (l.map kT)) = true := shaped_kTs l
theorem any_kT {c : Wrd} {l : List Wrd} : ((l.map kT).any fun z => PyData.eqv z (kT c)) = decide (c ∈ l) := by
  rw [List.any_map, Bool.eq_iff_iff, List.any_eq_true, decide_eq_true_eq]
  constructor
  · rintro ⟨x, hx, e⟩
    have e' : PyData.eqv (kT x) (kT c) = true := e
    rw [eqv_kT, decide_eq_true_eq] at e'
    rw [← e']; exact hx
  · intro h
    refine ⟨c, h, ?_⟩
    show PyData.eqv (kT c) (kT c) = true
    rw [eqv_kT, decide_eq_true_eq]
theorem dIn_kT {c : Wrd} {l : List Wrd} : dIn (kT c) (.list (l.map kT)) = some (.bool (decide (c ∈ l))) := by
  show (if (SeqAt.shaped (kT c) && SeqAt.shaped (.list (l.map kT))) = true then some (PyData.bool ((l.map kT).any fun z => PyData.eqv z (kT c))) else none) = _
  rw [shaped_kT, shaped_kTs, any_kT]
  rfl
theorem dIn_kTt {c : Wrd} {l : List Wrd} : dIn (kT c) (.tuple (l.map kT)) = some (.bool (decide (c ∈ l))) := by
  show (if (SeqAt.shaped (kT c) && SeqAt.shaped (.tuple (l.map kT))) = true then some (PyData.bool ((l.map kT).any fun z => PyData.eqv z (kT c))) else none) = _
  rw [shaped_kT, shaped_kTt, any_kT]
  rfl
theorem dNotIn_kT {c : Wrd} {l : List Wrd} : dNotIn (kT c) (.list (l.map kT)) = some (.bool (!decide (c ∈ l))) := by
  unfold dNotIn
  rw [dIn_kT]
theorem dNotIn_kTt {c : Wrd} {l : List Wrd} : dNotIn (kT c) (.tuple (l.map kT)) = some (.bool (!decide (c ∈ l))) := by
  unfold dNotIn
  rw [dIn_kTt]
theorem getK {L : List Wrd} {i : Nat} {c : Wrd} (h : L[i]? = some c) : dIx (.list (L.map kT)) (.int (i : Int)) = some (kT c) := by
  have hl := (List.getElem?_eq_some_iff.mp h).1
  show atI (L.map kT) (i : Int) = _
  rw [atI_nat (by rw [List.length_map]; exact hl), List.getElem?_map, h]
  rfl
end Wd

set_option Elab.async false
set_option linter.all false
set_option maxRecDepth 100000
set_option maxHeartbeats 4000000
set_option autoImplicit false
/-! neighbours -/
namespace Wd
open PySem PyProof.Rows L2 Mt
/-- the cells beyond all sides -/
def nbs (n : Int) (c : Wrd) : List Wrd := (sides n).map (crs n c)
theorem m_neighbours {n : Int} {c : Wrd} (h3 : 3 ≤ n) (hn : n ≤ 1000) (hc : inR n c) (hl : c.length ≤ 4000) : F_neighbours [.int n, kT c] = some (.list ((nbs n c).map kT)) := by
  have kn : okI n = true := okI_of (by omega) (by omega)
  have e : C_neighbours_0 [some (.dat (.int n)), some (.dat (kT c)), none] = some ((sides n).map fun s => kT (crs n c s)) := by
    refine fLc_map (l := sides n) (i := PyData.int) ?_ (by rw [sides_len]; omega) fun s hs => ?_
    · simp only [ev_fBin, ev_fUn, ev_fCons, ev_fApp, ev_fTup, ev_fLst, ev_fOfL, ev_fTest, ev_fAnd, ev_fOr, ev_fNot, ev_fAndV, ev_fOrV, ev_fNotV, ev_fIf, ev_fFrz, ev_fIter, ev_gSeq, ev_gRet, ev_gIf, ev_gSet, ev_gOwn, ev_gAsg, ev_gPar, ev_gParO, ev_gAug, ev_gApp, ev_gExt, ev_gPut, ev_gFor, ev_fSl, ev_fPart, ev_fRepL, ev_fChain, ev_run, ev_fRng1, ev_fRng2, ev_fRng3, ev_fRgL, ev_fRgT, ev_fRg1, ev_fRg2, ev_fSortSet, ev_tFrz, ev_frz_cons, ev_frz_nil, ev_var0, ev_varS, ev_C, ev_nil, ev_yes, ev_noPart, ev_next, ev_break, ev_cont, ev_no, ev_name, ev_tup2, frzC, wipeE, startE, List.length_cons, List.length_nil, List.map_cons, List.map_nil, List.replicate_succ, List.replicate_zero, List.cons_append, List.nil_append, List.getElem?_cons_zero, List.getElem?_cons_succ, List.set_cons_zero, List.set_cons_succ, Option.map_some, Option.map_none, Nat.reduceAdd, Nat.reduceSub, Nat.reduceLeDiff, if_true, ite_true, ite_false, Nat.zero_add, Nat.add_zero, Nat.sub_self, Nat.sub_zero, kn, rng_sidesX]
    · simp only [ev_lcTurn, ev_fBin, ev_fUn, ev_fCons, ev_fApp, ev_fTup, ev_fLst, ev_fOfL, ev_fTest, ev_fAnd, ev_fOr, ev_fNot, ev_fAndV, ev_fOrV, ev_fNotV, ev_fIf, ev_fFrz, ev_fIter, ev_gSeq, ev_gRet, ev_gIf, ev_gSet, ev_gOwn, ev_gAsg, ev_gPar, ev_gParO, ev_gAug, ev_gApp, ev_gExt, ev_gPut, ev_gFor, ev_fSl, ev_fPart, ev_fRepL, ev_fChain, ev_run, ev_fRng1, ev_fRng2, ev_fRng3, ev_fRgL, ev_fRgT, ev_fRg1, ev_fRg2, ev_fSortSet, ev_tFrz, ev_frz_cons, ev_frz_nil, ev_var0, ev_varS, ev_C, ev_nil, ev_yes, ev_noPart, ev_next, ev_break, ev_cont, ev_no, ev_name, ev_tup2, frzC, wipeE, startE, List.length_cons, List.length_nil, List.map_cons, List.map_nil, List.replicate_succ, List.replicate_zero, List.cons_append, List.nil_append, List.getElem?_cons_zero, List.getElem?_cons_succ, List.set_cons_zero, List.set_cons_succ, Option.map_some, Option.map_none, Nat.reduceAdd, Nat.reduceSub, Nat.reduceLeDiff, if_true, ite_true, ite_false, Nat.zero_add, Nat.add_zero, Nat.sub_self, Nat.sub_zero, m_crossed h3 hc (mem_sides.mp hs) (by omega)]
  have e2 : ((sides n).map fun s => kT (crs n c s)) = (nbs n c).map kT := by unfold nbs; rw [List.map_map]; rfl
  rw [e2] at e
  simp only [F_neighbours, G_neighbours, ev_fBin, ev_fUn, ev_fCons, ev_fApp, ev_fTup, ev_fLst, ev_fOfL, ev_fTest, ev_fAnd, ev_fOr, ev_fNot, ev_fAndV, ev_fOrV, ev_fNotV, ev_fIf, ev_fFrz, ev_fIter, ev_gSeq, ev_gRet, ev_gIf, ev_gSet, ev_gOwn, ev_gAsg, ev_gPar, ev_gParO, ev_gAug, ev_gApp, ev_gExt, ev_gPut, ev_gFor, ev_fSl, ev_fPart, ev_fRepL, ev_fChain, ev_run, ev_fRng1, ev_fRng2, ev_fRng3, ev_fRgL, ev_fRgT, ev_fRg1, ev_fRg2, ev_fSortSet, ev_tFrz, ev_frz_cons, ev_frz_nil, ev_var0, ev_varS, ev_C, ev_nil, ev_yes, ev_noPart, ev_next, ev_break, ev_cont, ev_no, ev_name, ev_tup2, frzC, wipeE, startE, List.length_cons, List.length_nil, List.map_cons, List.map_nil, List.replicate_succ, List.replicate_zero, List.cons_append, List.nil_append, List.getElem?_cons_zero, List.getElem?_cons_succ, List.set_cons_zero, List.set_cons_succ, Option.map_some, Option.map_none, Nat.reduceAdd, Nat.reduceSub, Nat.reduceLeDiff, if_true, ite_true, ite_false, Nat.zero_add, Nat.add_zero, Nat.sub_self, Nat.sub_zero, frzC, e]
theorem nbs_nodup {n : Int} {c : Wrd} (h3 : 3 ≤ n) (hc : NF n c) : (nbs n c).Nodup := by
  unfold nbs
  rw [List.nodup_iff_pairwise_ne, List.pairwise_map]
  refine List.Pairwise.imp_of_mem (fun {a b} ha hb q e => q ?_) (List.nodup_iff_pairwise_ne.mp (nodup_sides n))
  have h1 := act_crs h3 hc (mem_sides.mp ha)
  have h2 := act_crs h3 hc (mem_sides.mp hb)
  rw [e, h2] at h1
  have h4 := act_cancel h1
  have w1 := Wl.single h3 (mem_sides.mp ha)
  have w2 := Wl.single h3 (mem_sides.mp hb)
  have := NF.ext h3 w2.nfm w1.nfm h4
  exact (List.cons.inj this).1.symm
end Wd

set_option Elab.async false
set_option linter.all false
set_option maxRecDepth 100000
set_option maxHeartbeats 4000000
set_option autoImplicit false
/-! machine -/
namespace Wd
open PySem PyProof.Rows L2 Mt
/-! barred_after, to the sign -/
def leI (a b : Int) : Bool := decide (a ≤ b)
theorem sorted_isrt {l : List Int} : (l.map PyData.int).mergeSort leD = (isrt l).map PyData.int := by
  have h := List.map_mergeSort (f := PyData.int) (r := leI) (s := leD) (l := l) (fun a _ b _ => by
    unfold leD leI
    rw [PySem.W.dataLt_int, Bool.eq_iff_iff, decide_eq_true_eq, Bool.not_eq_true', decide_eq_false_iff_not]
    omega)
  rw [← h]
  congr 1
  have tr : ∀ a b c : Int, leI a b = true → leI b c = true → leI a c = true := fun a b c h1 h2 => by
    unfold leI at *
    rw [decide_eq_true_eq] at *
    omega
  have to : ∀ a b : Int, (leI a b || leI b a) = true := fun a b => by
    unfold leI
    rw [Bool.or_eq_true, decide_eq_true_eq, decide_eq_true_eq]
    omega
  refine List.Perm.eq_of_pairwise (le := fun a b => a ≤ b) (fun a b _ _ h1 h2 => by omega) ((List.pairwise_mergeSort tr to l).imp fun h => of_decide_eq_true h) isrt_pw ((List.mergeSort_perm l leI).trans isrt_perm.symm)
open PySem.W (alike dataLt) in
theorem okSort_intsJ {l : List Int} : okSort (l.map PyData.int) = true := by
  unfold okSort
  rw [Bool.and_eq_true, Bool.and_eq_true]
  refine ⟨⟨List.all_eq_true.mpr fun a ha => List.all_eq_true.mpr fun b hb => ?_, List.all_eq_true.mpr fun a ha => ?_⟩, List.all_eq_true.mpr fun a ha => ?_⟩
  · obtain ⟨p, _, rfl⟩ := List.mem_map.mp ha
    obtain ⟨q, _, rfl⟩ := List.mem_map.mp hb
    simp [alike]
  · obtain ⟨p, _, rfl⟩ := List.mem_map.mp ha
    rfl
  · obtain ⟨p, _, rfl⟩ := List.mem_map.mp ha
    exact decide_eq_true (Nat.zero_le _)
theorem dSorted_isrt {l : List Int} : dSorted [.list (l.map PyData.int)] = some (.list ((isrt l).map PyData.int)) := by
  show (if okSort (l.map PyData.int) = true then _ else _) = _
  rw [if_pos okSort_intsJ, sorted_isrt]
theorem any_intsJ {s : Int} {l : List Int} : ((l.map PyData.int).any fun z => PyData.eqv z (.int s)) = decide (s ∈ l) := by
  rw [List.any_map, Bool.eq_iff_iff, List.any_eq_true, decide_eq_true_eq]
  constructor
  · rintro ⟨x, hx, e⟩
    have e' : (x == s) = true := e
    rw [beq_iff_eq] at e'
    rw [← e']; exact hx
  · intro h
    exact ⟨s, h, beq_self_eq_true s⟩
theorem dIn_intJ {s : Int} {l : List Int} : dIn (.int s) (kT l) = some (.bool (decide (s ∈ l))) := by
  have h1 : SeqAt.shaped (.int s) = true := rfl
  show (if (SeqAt.shaped (.int s) && SeqAt.shaped (kT l)) = true then some (PyData.bool ((l.map PyData.int).any fun z => PyData.eqv z (.int s))) else none) = _
  rw [shaped_kT, h1, any_intsJ]
  rfl
theorem m_barredX {n s : Int} {B : Wrd} (hn : 0 < n) : F_barred_after [.int n, kT B, .int s] = some (kT (isrt (brd n B s))) := by
  have e : C_barred_after_0 [some (.dat (.int n)), some (.dat (kT B)), some (.dat (.int s)), none, none] = some (([(s - 1) % n, (s + 1) % n].filter fun o => B.contains o || decide (o < s)).map PyData.int) := by
    have tl : (0 + 1 + 1 : Nat) ≤ 100000 := by omega
    have tl2 : (2 : Nat) ≤ 100000 := by omega
    have ti : ∀ a b : Int, items (.tuple [.int a, .int b]) = some ([a, b].map PyData.int) := fun _ _ => rfl
    refine fLc_filter (l := [(s - 1) % n, (s + 1) % n]) (i := PyData.int) ?_ (by show 2 ≤ 100000; omega) fun o ho => ?_
    · simp only [ev_fBin, ev_fUn, ev_fCons, ev_fApp, ev_fTup, ev_fLst, ev_fOfL, ev_fTest, ev_fAnd, ev_fOr, ev_fNot, ev_fAndV, ev_fOrV, ev_fNotV, ev_fIf, ev_fFrz, ev_fIter, ev_gSeq, ev_gRet, ev_gIf, ev_gSet, ev_gOwn, ev_gAsg, ev_gPar, ev_gParO, ev_gAug, ev_gApp, ev_gExt, ev_gPut, ev_gFor, ev_fSl, ev_fPart, ev_fRepL, ev_fChain, ev_run, ev_fRng1, ev_fRng2, ev_fRng3, ev_fRgL, ev_fRgT, ev_fRg1, ev_fRg2, ev_fSortSet, ev_tFrz, ev_frz_cons, ev_frz_nil, ev_var0, ev_varS, ev_C, ev_nil, ev_yes, ev_noPart, ev_next, ev_break, ev_cont, ev_no, ev_name, ev_tup2, frzC, wipeE, startE, List.length_cons, List.length_nil, List.map_cons, List.map_nil, List.replicate_succ, List.replicate_zero, List.cons_append, List.nil_append, List.getElem?_cons_zero, List.getElem?_cons_succ, List.set_cons_zero, List.set_cons_succ, Option.map_some, Option.map_none, Nat.reduceAdd, Nat.reduceSub, Nat.reduceLeDiff, if_true, ite_true, ite_false, Nat.zero_add, Nat.add_zero, Nat.sub_self, Nat.sub_zero, dSub_ii, dAdd_ii, dMod_ok hn, tl, tl2, ti]
    · have q : B.contains o = decide (o ∈ B) := by simp
      rw [q]
      by_cases h1 : o ∈ B
      · simp only [ev_lcTurn, ev_fBin, ev_fUn, ev_fCons, ev_fApp, ev_fTup, ev_fLst, ev_fOfL, ev_fTest, ev_fAnd, ev_fOr, ev_fNot, ev_fAndV, ev_fOrV, ev_fNotV, ev_fIf, ev_fFrz, ev_fIter, ev_gSeq, ev_gRet, ev_gIf, ev_gSet, ev_gOwn, ev_gAsg, ev_gPar, ev_gParO, ev_gAug, ev_gApp, ev_gExt, ev_gPut, ev_gFor, ev_fSl, ev_fPart, ev_fRepL, ev_fChain, ev_run, ev_fRng1, ev_fRng2, ev_fRng3, ev_fRgL, ev_fRgT, ev_fRg1, ev_fRg2, ev_fSortSet, ev_tFrz, ev_frz_cons, ev_frz_nil, ev_var0, ev_varS, ev_C, ev_nil, ev_yes, ev_noPart, ev_next, ev_break, ev_cont, ev_no, ev_name, ev_tup2, frzC, wipeE, startE, List.length_cons, List.length_nil, List.map_cons, List.map_nil, List.replicate_succ, List.replicate_zero, List.cons_append, List.nil_append, List.getElem?_cons_zero, List.getElem?_cons_succ, List.set_cons_zero, List.set_cons_succ, Option.map_some, Option.map_none, Nat.reduceAdd, Nat.reduceSub, Nat.reduceLeDiff, if_true, ite_true, ite_false, Nat.zero_add, Nat.add_zero, Nat.sub_self, Nat.sub_zero, dIn_intJ, decide_eq_true h1, Bool.true_or]
      · by_cases h2 : o < s
        · simp only [ev_lcTurn, ev_fBin, ev_fUn, ev_fCons, ev_fApp, ev_fTup, ev_fLst, ev_fOfL, ev_fTest, ev_fAnd, ev_fOr, ev_fNot, ev_fAndV, ev_fOrV, ev_fNotV, ev_fIf, ev_fFrz, ev_fIter, ev_gSeq, ev_gRet, ev_gIf, ev_gSet, ev_gOwn, ev_gAsg, ev_gPar, ev_gParO, ev_gAug, ev_gApp, ev_gExt, ev_gPut, ev_gFor, ev_fSl, ev_fPart, ev_fRepL, ev_fChain, ev_run, ev_fRng1, ev_fRng2, ev_fRng3, ev_fRgL, ev_fRgT, ev_fRg1, ev_fRg2, ev_fSortSet, ev_tFrz, ev_frz_cons, ev_frz_nil, ev_var0, ev_varS, ev_C, ev_nil, ev_yes, ev_noPart, ev_next, ev_break, ev_cont, ev_no, ev_name, ev_tup2, frzC, wipeE, startE, List.length_cons, List.length_nil, List.map_cons, List.map_nil, List.replicate_succ, List.replicate_zero, List.cons_append, List.nil_append, List.getElem?_cons_zero, List.getElem?_cons_succ, List.set_cons_zero, List.set_cons_succ, Option.map_some, Option.map_none, Nat.reduceAdd, Nat.reduceSub, Nat.reduceLeDiff, if_true, ite_true, ite_false, Nat.zero_add, Nat.add_zero, Nat.sub_self, Nat.sub_zero, dIn_intJ, dLt_ii, decide_eq_false h1, decide_eq_true h2, Bool.or_true]
        · simp only [ev_lcTurn, ev_fBin, ev_fUn, ev_fCons, ev_fApp, ev_fTup, ev_fLst, ev_fOfL, ev_fTest, ev_fAnd, ev_fOr, ev_fNot, ev_fAndV, ev_fOrV, ev_fNotV, ev_fIf, ev_fFrz, ev_fIter, ev_gSeq, ev_gRet, ev_gIf, ev_gSet, ev_gOwn, ev_gAsg, ev_gPar, ev_gParO, ev_gAug, ev_gApp, ev_gExt, ev_gPut, ev_gFor, ev_fSl, ev_fPart, ev_fRepL, ev_fChain, ev_run, ev_fRng1, ev_fRng2, ev_fRng3, ev_fRgL, ev_fRgT, ev_fRg1, ev_fRg2, ev_fSortSet, ev_tFrz, ev_frz_cons, ev_frz_nil, ev_var0, ev_varS, ev_C, ev_nil, ev_yes, ev_noPart, ev_next, ev_break, ev_cont, ev_no, ev_name, ev_tup2, frzC, wipeE, startE, List.length_cons, List.length_nil, List.map_cons, List.map_nil, List.replicate_succ, List.replicate_zero, List.cons_append, List.nil_append, List.getElem?_cons_zero, List.getElem?_cons_succ, List.set_cons_zero, List.set_cons_succ, Option.map_some, Option.map_none, Nat.reduceAdd, Nat.reduceSub, Nat.reduceLeDiff, if_true, ite_true, ite_false, Nat.zero_add, Nat.add_zero, Nat.sub_self, Nat.sub_zero, dIn_intJ, dLt_ii, decide_eq_false h1, decide_eq_false h2, Bool.or_false]
          try rfl
  have hf : brd n B s = [s] ++ [(s - 1) % n, (s + 1) % n].filter (fun o => B.contains o || decide (o < s)) := rfl
  have hs := dSorted_isrt (l := brd n B s)
  have hlen : ([(s - 1) % n, (s + 1) % n].filter (fun o => B.contains o || decide (o < s))).length ≤ 2 := List.length_filter_le _ _
  have et : dTuple [.list ((isrt (brd n B s)).map PyData.int)] = some (kT (isrt (brd n B s))) := dTuple_l
  generalize isrt (brd n B s) = Y at hs et ⊢
  rw [hf, List.map_append] at hs
  generalize [(s - 1) % n, (s + 1) % n].filter (fun o => B.contains o || decide (o < s)) = R at e hs hlen
  have ea : dAdd (.list [.int s]) (.list (R.map PyData.int)) = some (.list ([s].map PyData.int ++ R.map PyData.int)) := dAdd_l (by rw [List.length_map]; show 1 + _ ≤ _; omega)
  have tl3 : (0 + 1 : Nat) ≤ 100000 := by omega
  have tl4 : (1 : Nat) ≤ 100000 := by omega
  generalize R.map PyData.int = Z at e ea hs
  generalize [s].map PyData.int ++ Z = Z2 at ea hs
  generalize Y.map PyData.int = Z3 at hs et
  simp only [F_barred_after, G_barred_after, ev_fBin, ev_fUn, ev_fCons, ev_fApp, ev_fTup, ev_fLst, ev_fOfL, ev_fTest, ev_fAnd, ev_fOr, ev_fNot, ev_fAndV, ev_fOrV, ev_fNotV, ev_fIf, ev_fFrz, ev_fIter, ev_gSeq, ev_gRet, ev_gIf, ev_gSet, ev_gOwn, ev_gAsg, ev_gPar, ev_gParO, ev_gAug, ev_gApp, ev_gExt, ev_gPut, ev_gFor, ev_fSl, ev_fPart, ev_fRepL, ev_fChain, ev_run, ev_fRng1, ev_fRng2, ev_fRng3, ev_fRgL, ev_fRgT, ev_fRg1, ev_fRg2, ev_fSortSet, ev_tFrz, ev_frz_cons, ev_frz_nil, ev_var0, ev_varS, ev_C, ev_nil, ev_yes, ev_noPart, ev_next, ev_break, ev_cont, ev_no, ev_name, ev_tup2, frzC, wipeE, startE, List.length_cons, List.length_nil, List.map_cons, List.map_nil, List.replicate_succ, List.replicate_zero, List.cons_append, List.nil_append, List.getElem?_cons_zero, List.getElem?_cons_succ, List.set_cons_zero, List.set_cons_succ, Option.map_some, Option.map_none, Nat.reduceAdd, Nat.reduceSub, Nat.reduceLeDiff, if_true, ite_true, ite_false, Nat.zero_add, Nat.add_zero, Nat.sub_self, Nat.sub_zero, frzC, e, tl3, tl4, ea, hs, et]
/-! machine -/
theorem lf_kT {w : Wrd} : lf (kT w) = true := by
  show lfAll (w.map PyData.int) = true
  induction w with
  | nil => rfl
  | cons a w ih =>
    show (lf (.int a) && lfAll (w.map PyData.int)) = true
    rw [ih]; rfl
theorem findIdx_idxOf {t : Wrd} : ∀ {L : List Wrd}, t ∈ L → (L.map kT).findIdx? (fun z => PyData.eqv z (kT t)) = some (L.idxOf t)
  | [], h => by cases h
  | a :: L, h => by
    rw [List.map_cons, List.findIdx?_cons, eqv_kT, List.idxOf_cons]
    by_cases q : a = t
    · subst q; simp
    · have hm : t ∈ L := (List.mem_cons.mp h).resolve_left fun z => q z.symm
      rw [decide_eq_false q, findIdx_idxOf hm]
      have : (a == t) = false := by simpa using q
      rw [this]
      rfl
theorem dIndex_kT {t : Wrd} {L : List Wrd} (h : t ∈ L) : dIndex (.list (L.map kT)) (kT t) = some (.int (L.idxOf t : Int)) := by
  show (if (SeqAt.shaped (.list (L.map kT)) && SeqAt.shaped (kT t)) = true then match (L.map kT).findIdx? (fun z => PyData.eqv z (kT t)) with
    | some j => (some (PyData.int (j : Nat)) : Option D)
    | none => none else none) = _
  rw [shaped_kTs, shaped_kT, findIdx_idxOf h]
  rfl
theorem dIx_L {L : List Wrd} {i : Nat} (h : i < L.length) : dIx (.list (L.map kT)) (.int (i : Int)) = some (kT (L.getD i [])) := by
  show atI (L.map kT) (i : Int) = _
  rw [atI_nat (by rw [List.length_map]; exact h), List.getElem?_map, List.getElem?_eq_getElem h, List.getD_eq_getElem?_getD, List.getElem?_eq_getElem h]
  rfl
theorem mside_pre {n s : Int} {i : Nat} {L : List Wrd} {r : Wrd} : ∃ x, (mside n i (L, r) s).1 = L ++ x ∧ x.length ≤ 1 ∧ (mside n i (L, r) s).2.length = r.length + 1 := by
  unfold mside
  split
  · exact ⟨[], by rw [List.append_nil], Nat.zero_le _, by rw [List.length_append]; rfl⟩
  · show ∃ x, (if L.contains _ then L else L ++ [_]) = L ++ x ∧ _
    split
    · exact ⟨[], by rw [List.append_nil], Nat.zero_le _, by simp⟩
    · exact ⟨[_], rfl, Nat.le_refl _, by simp⟩
theorem b_machine {n s : Int} {i : Nat} {L : List Wrd} {r : Wrd} {c2 c6 : Option Cell} (hn : 0 < n) (hi : i < L.length) (hl : L.length ≤ 9000) (hr : r.length ≤ 9000) :
    ∃ c6' o, B_machine_0 [some (.dat (.int n)), some (.own (L.map kT)), c2, some (.dat (.int (i : Int))), some (.own (r.map .int)), some (.dat (.int s)), c6] = o ∧
      (o = .nx [some (.dat (.int n)), some (.own ((mside n i (L, r) s).1.map kT)), c2, some (.dat (.int (i : Int))), some (.own ((mside n i (L, r) s).2.map .int)), some (.dat (.int s)), c6'] ∨
       o = .ct [some (.dat (.int n)), some (.own ((mside n i (L, r) s).1.map kT)), c2, some (.dat (.int (i : Int))), some (.own ((mside n i (L, r) s).2.map .int)), some (.dat (.int s)), c6']) := by
  have hx := dIx_L hi
  have hrl : (r.map PyData.int).length < 100000 := by rw [List.length_map]; omega
  by_cases q : s ∈ L.getD i []
  · have e : mside n i (L, r) s = (L, r ++ [-1]) := by
      unfold mside
      rw [if_pos (List.contains_iff_mem.mpr q)]
    rw [e]
    have hn1 : dNeg (.int 1) = some (.int (-1)) := rfl
    have er : (r ++ [-1]).map PyData.int = r.map PyData.int ++ [PyData.int (-1)] := by rw [List.map_append]; rfl
    refine ⟨c6, _, rfl, .inr ?_⟩
    show B_machine_0 _ = .ct [_, _, _, _, some (.own ((r ++ [-1]).map PyData.int)), _, _]
    rw [er]
    generalize r.map PyData.int = R at hrl
    generalize L.map kT = M at hx
    simp only [B_machine_0, ev_fBin, ev_fUn, ev_fCons, ev_fApp, ev_fTup, ev_fLst, ev_fOfL, ev_fTest, ev_fAnd, ev_fOr, ev_fNot, ev_fAndV, ev_fOrV, ev_fNotV, ev_fIf, ev_fFrz, ev_fIter, ev_gSeq, ev_gRet, ev_gIf, ev_gSet, ev_gOwn, ev_gAsg, ev_gPar, ev_gParO, ev_gAug, ev_gApp, ev_gExt, ev_gPut, ev_gFor, ev_fSl, ev_fPart, ev_fRepL, ev_fChain, ev_run, ev_fRng1, ev_fRng2, ev_fRng3, ev_fRgL, ev_fRgT, ev_fRg1, ev_fRg2, ev_fSortSet, ev_tFrz, ev_frz_cons, ev_frz_nil, ev_var0, ev_varS, ev_C, ev_nil, ev_yes, ev_noPart, ev_next, ev_break, ev_cont, ev_no, ev_name, ev_tup2, frzC, wipeE, startE, List.length_cons, List.length_nil, List.map_cons, List.map_nil, List.replicate_succ, List.replicate_zero, List.cons_append, List.nil_append, List.getElem?_cons_zero, List.getElem?_cons_succ, List.set_cons_zero, List.set_cons_succ, Option.map_some, Option.map_none, Nat.reduceAdd, Nat.reduceSub, Nat.reduceLeDiff, if_true, ite_true, ite_false, Nat.zero_add, Nat.add_zero, Nat.sub_self, Nat.sub_zero, frzC, hx, dIn_intJ, decide_eq_true q, hn1, hrl]
  · have qc : ¬ (L.getD i []).contains s = true := fun z => q (List.contains_iff_mem.mp z)
    have hb := m_barredX (n := n) (s := s) (B := L.getD i []) hn
    generalize ht : isrt (brd n (L.getD i []) s) = t at hb
    have e : mside n i (L, r) s = ((if L.contains t then L else L ++ [t]), r ++ [((if L.contains t then L else L ++ [t]).idxOf t : Int)]) := by
      unfold mside
      rw [if_neg qc, ht]
    rw [e]
    have hnot := dNotIn_kT (c := t) (l := L)
    have hLl : (L.map kT).length < 100000 := by rw [List.length_map]; omega
    have tm : lf (kT t) = true := lf_kT
    have ti : ∀ j : Nat, lf (.int (j : Int)) = true := fun _ => rfl
    by_cases q2 : t ∈ L
    · have q2c : L.contains t = true := List.contains_iff_mem.mpr q2
      rw [if_pos q2c]
      have hix := dIndex_kT q2
      rw [decide_eq_true q2] at hnot
      have er : (r ++ [(L.idxOf t : Int)]).map PyData.int = r.map PyData.int ++ [PyData.int (L.idxOf t : Int)] := by rw [List.map_append]; rfl
      refine ⟨some (.dat (kT t)), _, rfl, .inl ?_⟩
      show B_machine_0 _ = .nx [_, _, _, _, some (.own ((r ++ [(L.idxOf t : Int)]).map PyData.int)), _, _]
      rw [er]
      generalize r.map PyData.int = R at hrl
      generalize L.map kT = M at hx hix hnot
      simp only [B_machine_0, ev_fBin, ev_fUn, ev_fCons, ev_fApp, ev_fTup, ev_fLst, ev_fOfL, ev_fTest, ev_fAnd, ev_fOr, ev_fNot, ev_fAndV, ev_fOrV, ev_fNotV, ev_fIf, ev_fFrz, ev_fIter, ev_gSeq, ev_gRet, ev_gIf, ev_gSet, ev_gOwn, ev_gAsg, ev_gPar, ev_gParO, ev_gAug, ev_gApp, ev_gExt, ev_gPut, ev_gFor, ev_fSl, ev_fPart, ev_fRepL, ev_fChain, ev_run, ev_fRng1, ev_fRng2, ev_fRng3, ev_fRgL, ev_fRgT, ev_fRg1, ev_fRg2, ev_fSortSet, ev_tFrz, ev_frz_cons, ev_frz_nil, ev_var0, ev_varS, ev_C, ev_nil, ev_yes, ev_noPart, ev_next, ev_break, ev_cont, ev_no, ev_name, ev_tup2, frzC, wipeE, startE, List.length_cons, List.length_nil, List.map_cons, List.map_nil, List.replicate_succ, List.replicate_zero, List.cons_append, List.nil_append, List.getElem?_cons_zero, List.getElem?_cons_succ, List.set_cons_zero, List.set_cons_succ, Option.map_some, Option.map_none, Nat.reduceAdd, Nat.reduceSub, Nat.reduceLeDiff, if_true, ite_true, ite_false, Nat.zero_add, Nat.add_zero, Nat.sub_self, Nat.sub_zero, frzC, hx, dIn_intJ, decide_eq_false q, hb, hnot, Bool.not_true, hix, hrl, tm, ti]
    · have q2c : ¬ L.contains t = true := fun z => q2 (List.contains_iff_mem.mp z)
      rw [if_neg q2c]
      have hix := dIndex_kT (t := t) (L := L ++ [t]) (by simp)
      rw [decide_eq_false q2] at hnot
      have er : (r ++ [((L ++ [t]).idxOf t : Int)]).map PyData.int = r.map PyData.int ++ [PyData.int ((L ++ [t]).idxOf t : Int)] := by rw [List.map_append]; rfl
      have eL : (L ++ [t]).map kT = L.map kT ++ [kT t] := by rw [List.map_append]; rfl
      refine ⟨some (.dat (kT t)), _, rfl, .inl ?_⟩
      show B_machine_0 _ = .nx [_, some (.own ((L ++ [t]).map kT)), _, _, some (.own ((r ++ [((L ++ [t]).idxOf t : Int)]).map PyData.int)), _, _]
      rw [er, eL]
      rw [eL] at hix
      generalize r.map PyData.int = R at hrl
      generalize L.map kT = M at hx hix hnot hLl
      simp only [B_machine_0, ev_fBin, ev_fUn, ev_fCons, ev_fApp, ev_fTup, ev_fLst, ev_fOfL, ev_fTest, ev_fAnd, ev_fOr, ev_fNot, ev_fAndV, ev_fOrV, ev_fNotV, ev_fIf, ev_fFrz, ev_fIter, ev_gSeq, ev_gRet, ev_gIf, ev_gSet, ev_gOwn, ev_gAsg, ev_gPar, ev_gParO, ev_gAug, ev_gApp, ev_gExt, ev_gPut, ev_gFor, ev_fSl, ev_fPart, ev_fRepL, ev_fChain, ev_run, ev_fRng1, ev_fRng2, ev_fRng3, ev_fRgL, ev_fRgT, ev_fRg1, ev_fRg2, ev_fSortSet, ev_tFrz, ev_frz_cons, ev_frz_nil, ev_var0, ev_varS, ev_C, ev_nil, ev_yes, ev_noPart, ev_next, ev_break, ev_cont, ev_no, ev_name, ev_tup2, frzC, wipeE, startE, List.length_cons, List.length_nil, List.map_cons, List.map_nil, List.replicate_succ, List.replicate_zero, List.cons_append, List.nil_append, List.getElem?_cons_zero, List.getElem?_cons_succ, List.set_cons_zero, List.set_cons_succ, Option.map_some, Option.map_none, Nat.reduceAdd, Nat.reduceSub, Nat.reduceLeDiff, if_true, ite_true, ite_false, Nat.zero_add, Nat.add_zero, Nat.sub_self, Nat.sub_zero, frzC, hx, dIn_intJ, decide_eq_false q, hb, hnot, Bool.not_false, hLl, hix, hrl, tm, ti]
theorem l_machine {n : Int} {i : Nat} {c2 : Option Cell} (hn : 0 < n) : ∀ (l : List Int) (L : List Wrd) (r : Wrd) (c5 c6 : Option Cell), i < L.length → L.length + l.length ≤ 8000 → r.length + l.length ≤ 8000 →
    ∃ c5' c6', loop (sName 5) B_machine_0 (l.map PyData.int) [some (.dat (.int n)), some (.own (L.map kT)), c2, some (.dat (.int (i : Int))), some (.own (r.map .int)), c5, c6] = .nx [some (.dat (.int n)), some (.own ((l.foldl (mside n i) (L, r)).1.map kT)), c2, some (.dat (.int (i : Int))), some (.own ((l.foldl (mside n i) (L, r)).2.map .int)), c5', c6']
      ∧ (l.foldl (mside n i) (L, r)).1.length ≤ L.length + l.length ∧ (l.foldl (mside n i) (L, r)).2.length ≤ r.length + l.length
  | [], L, r, c5, c6, _, _, _ => ⟨c5, c6, ev_loop_nil, Nat.le_refl _, Nat.le_refl _⟩
  | s :: l, L, r, c5, c6, hi, h1, h2 => by
    rw [List.length_cons] at h1 h2
    obtain ⟨c6', o, eo, hb⟩ := b_machine (n := n) (s := s) (i := i) (L := L) (r := r) (c2 := c2) (c6 := c6) hn hi (by omega) (by omega)
    obtain ⟨x, hx1, hx2, hx3⟩ := mside_pre (n := n) (s := s) (i := i) (L := L) (r := r)
    generalize hp : mside n i (L, r) s = p at hb hx1 hx3
    obtain ⟨L', r'⟩ := p
    have hL' : L'.length ≤ L.length + 1 ∧ i < L'.length := by
      have : L' = L ++ x := hx1
      rw [this, List.length_append]
      omega
    have hr' : r'.length = r.length + 1 := hx3
    obtain ⟨d5, d6, e, k1, k2⟩ := l_machine (i := i) (c2 := c2) hn l L' r' (some (.dat (.int s))) c6' hL'.2 (by omega) (by omega)
    refine ⟨d5, d6, ?_, ?_, ?_⟩
    · rw [List.map_cons, List.foldl_cons, hp]
      rcases hb with hb | hb
      · exact (loop_go rfl (eo.trans hb)).trans e
      · exact (loop_ct rfl (eo.trans hb)).trans e
    · rw [List.foldl_cons, hp, List.length_cons]; omega
    · rw [List.foldl_cons, hp, List.length_cons]; omega
theorem dTuple_ints {r : Wrd} : dTuple [.list (r.map PyData.int)] = some (kT r) := dTuple_l
theorem w_machine {n : Int} (hn : 0 < n) (hn9 : n ≤ 9) (j : Nat) : ∀ (k i : Nat) (L R : List Wrd) (c4 c5 c6 : Option Cell) (L2 R2 : List Wrd), mloop n k i L R = some (L2, R2) → L.length + 10 * k ≤ 7000 → R.length + k ≤ 7000 →
    ∃ ρ', whileF (tFrz (fTest (fBin dLt (fVar 3) (fApp dLen (fCons (fVar 1) fNil))))) B_machine_1 (k + j) [some (.dat (.int n)), some (.own (L.map kT)), some (.own (R.map kT)), some (.dat (.int (i : Int))), c4, c5, c6] = .nx ρ' ∧ ∃ c3 c4 c5 c6, ρ' = [some (.dat (.int n)), some (.own (L2.map kT)), some (.own (R2.map kT)), c3, c4, c5, c6] := by
  intro k
  induction k with
  | zero => intro i L R c4 c5 c6 L2 R2 h; cases h
  | succ k ih =>
    intro i L R c4 c5 c6 L2 R2 h h1 h2
    have hl := sides_len (n := n)
    have h' : (if i < L.length then mloop n k (i + 1) ((sides n).foldl (mside n i) (L, [])).1 (R ++ [((sides n).foldl (mside n i) (L, [])).2]) else some (L, R)) = some (L2, R2) := h
    have e1 : dLen [.list (L.map kT)] = some (.int (L.length : Int)) := by
      show some (PyData.int ((L.map kT).length : Nat)) = _
      rw [List.length_map]
    rw [show k + 1 + j = (k + j) + 1 by omega]
    by_cases q : i < L.length
    · rw [if_pos q] at h'
      have tt : decide ((i : Int) < (L.length : Int)) = true := decide_eq_true (by omega)
      obtain ⟨d5, d6, e, k1, k2⟩ := l_machine (i := i) (c2 := some (.own (R.map kT))) hn (sides n) L [] c5 c6 q (by omega) (by show 0 + _ ≤ _; omega)
      generalize hp : (sides n).foldl (mside n i) (L, []) = p at h' e k1 k2
      obtain ⟨L', r'⟩ := p
      obtain ⟨ρ', e2, e3⟩ := ih (i + 1) L' (R ++ [r']) (some (.own (r'.map .int))) d5 d6 L2 R2 h' (by have : L'.length ≤ L.length + (sides n).length := k1; omega) (by rw [List.length_append, List.length_singleton]; omega)
      refine ⟨ρ', ?_, e3⟩
      have kn : okI n = true := okI_of (by omega) (by omega)
      have hR : (R.map kT).length < 100000 := by rw [List.length_map]; omega
      have eR : (R ++ [r']).map kT = R.map kT ++ [kT r'] := by rw [List.map_append]; rfl
      have ed := dTuple_ints (r := r')
      have tm : lf (kT r') = true := lf_kT
      have tA : dAddI (.int (i : Int)) (.int 1) = some (.int ((i + 1 : Nat) : Int)) := by
        show some (PyData.int ((i : Int) + 1)) = _
        congr 2
      rw [while_step ?_ ?_]
      · exact e2
      · generalize L.map kT = M at e1
        simp only [ev_fBin, ev_fUn, ev_fCons, ev_fApp, ev_fTup, ev_fLst, ev_fOfL, ev_fTest, ev_fAnd, ev_fOr, ev_fNot, ev_fAndV, ev_fOrV, ev_fNotV, ev_fIf, ev_fFrz, ev_fIter, ev_gSeq, ev_gRet, ev_gIf, ev_gSet, ev_gOwn, ev_gAsg, ev_gPar, ev_gParO, ev_gAug, ev_gApp, ev_gExt, ev_gPut, ev_gFor, ev_fSl, ev_fPart, ev_fRepL, ev_fChain, ev_run, ev_fRng1, ev_fRng2, ev_fRng3, ev_fRgL, ev_fRgT, ev_fRg1, ev_fRg2, ev_fSortSet, ev_tFrz, ev_frz_cons, ev_frz_nil, ev_var0, ev_varS, ev_C, ev_nil, ev_yes, ev_noPart, ev_next, ev_break, ev_cont, ev_no, ev_name, ev_tup2, frzC, wipeE, startE, List.length_cons, List.length_nil, List.map_cons, List.map_nil, List.replicate_succ, List.replicate_zero, List.cons_append, List.nil_append, List.getElem?_cons_zero, List.getElem?_cons_succ, List.set_cons_zero, List.set_cons_succ, Option.map_some, Option.map_none, Nat.reduceAdd, Nat.reduceSub, Nat.reduceLeDiff, if_true, ite_true, ite_false, Nat.zero_add, Nat.add_zero, Nat.sub_self, Nat.sub_zero, frzC, e1, dLt_ii, tt]
      · rw [eR]
        have e' : loop (sName 5) B_machine_0 ((sides n).map PyData.int) [some (.dat (.int n)), some (.own (L.map kT)), some (.own (R.map kT)), some (.dat (.int (i : Int))), some (.own []), c5, c6] = .nx [some (.dat (.int n)), some (.own (L'.map kT)), some (.own (R.map kT)), some (.dat (.int (i : Int))), some (.own (r'.map .int)), d5, d6] := e
        generalize R.map kT = M2 at e' hR
        generalize r'.map PyData.int = M3 at e' ed
        generalize L.map kT = M at e'
        generalize L'.map kT = M4 at e'
        simp only [B_machine_1, ev_fBin, ev_fUn, ev_fCons, ev_fApp, ev_fTup, ev_fLst, ev_fOfL, ev_fTest, ev_fAnd, ev_fOr, ev_fNot, ev_fAndV, ev_fOrV, ev_fNotV, ev_fIf, ev_fFrz, ev_fIter, ev_gSeq, ev_gRet, ev_gIf, ev_gSet, ev_gOwn, ev_gAsg, ev_gPar, ev_gParO, ev_gAug, ev_gApp, ev_gExt, ev_gPut, ev_gFor, ev_fSl, ev_fPart, ev_fRepL, ev_fChain, ev_run, ev_fRng1, ev_fRng2, ev_fRng3, ev_fRgL, ev_fRgT, ev_fRg1, ev_fRg2, ev_fSortSet, ev_tFrz, ev_frz_cons, ev_frz_nil, ev_var0, ev_varS, ev_C, ev_nil, ev_yes, ev_noPart, ev_next, ev_break, ev_cont, ev_no, ev_name, ev_tup2, frzC, wipeE, startE, List.length_cons, List.length_nil, List.map_cons, List.map_nil, List.replicate_succ, List.replicate_zero, List.cons_append, List.nil_append, List.getElem?_cons_zero, List.getElem?_cons_succ, List.set_cons_zero, List.set_cons_succ, Option.map_some, Option.map_none, Nat.reduceAdd, Nat.reduceSub, Nat.reduceLeDiff, if_true, ite_true, ite_false, Nat.zero_add, Nat.add_zero, Nat.sub_self, Nat.sub_zero, frzC, kn, rng_sidesX, Nat.zero_le, e', ed, tm, hR, tA]
    · rw [if_neg q] at h'
      obtain ⟨rfl, rfl⟩ := Prod.mk.inj (Option.some.inj h')
      have tt : decide ((i : Int) < (L.length : Int)) = false := decide_eq_false (by omega)
      refine ⟨_, while_stop ?_, _, _, _, _, rfl⟩
      generalize L.map kT = M at e1
      simp only [ev_fBin, ev_fUn, ev_fCons, ev_fApp, ev_fTup, ev_fLst, ev_fOfL, ev_fTest, ev_fAnd, ev_fOr, ev_fNot, ev_fAndV, ev_fOrV, ev_fNotV, ev_fIf, ev_fFrz, ev_fIter, ev_gSeq, ev_gRet, ev_gIf, ev_gSet, ev_gOwn, ev_gAsg, ev_gPar, ev_gParO, ev_gAug, ev_gApp, ev_gExt, ev_gPut, ev_gFor, ev_fSl, ev_fPart, ev_fRepL, ev_fChain, ev_run, ev_fRng1, ev_fRng2, ev_fRng3, ev_fRgL, ev_fRgT, ev_fRg1, ev_fRg2, ev_fSortSet, ev_tFrz, ev_frz_cons, ev_frz_nil, ev_var0, ev_varS, ev_C, ev_nil, ev_yes, ev_noPart, ev_next, ev_break, ev_cont, ev_no, ev_name, ev_tup2, frzC, wipeE, startE, List.length_cons, List.length_nil, List.map_cons, List.map_nil, List.replicate_succ, List.replicate_zero, List.cons_append, List.nil_append, List.getElem?_cons_zero, List.getElem?_cons_succ, List.set_cons_zero, List.set_cons_succ, Option.map_some, Option.map_none, Nat.reduceAdd, Nat.reduceSub, Nat.reduceLeDiff, if_true, ite_true, ite_false, Nat.zero_add, Nat.add_zero, Nat.sub_self, Nat.sub_zero, frzC, e1, dLt_ii, tt]
/-- the machine as data -/
def machD (n : Int) : D := .tuple [.tuple ((sts n).map kT), .tuple ((rws n).map kT)]
theorem dTuple_kTs {L : List Wrd} : dTuple [.list (L.map kT)] = some (.tuple (L.map kT)) := dTuple_l
theorem m_machine {n : Int} (M : Mach n) : F_machine [.int n] = some (machD n) := by
  have h5 := M.h5
  obtain ⟨ρ', e, c3, c4, c5, c6, hρ⟩ := w_machine (by omega) M.h9 99900 100 0 [[]] [] none none none _ _ M.run (by show 1 + 1000 ≤ 7000; omega) (by show 0 + 100 ≤ 7000; omega)
  subst hρ
  have e4 : whileF (tFrz (fTest (fBin dLt (fVar 3) (fApp dLen (fCons (fVar 1) fNil))))) B_machine_1 100000 [some (.dat (.int n)), some (.own [kT []]), some (.own []), some (.dat (.int 0)), none, none, none] = _ := e
  have t0 : PyData.tuple [] = kT [] := rfl
  have tl : (0 + 1 : Nat) ≤ 100000 := by omega
  have tl1 : (1 : Nat) ≤ 100000 := by omega
  have tl2 : (0 + 1 + 1 : Nat) ≤ 100000 := by omega
  have tl3 : (2 : Nat) ≤ 100000 := by omega
  have d1 := dTuple_kTs (L := sts n)
  have d2 := dTuple_kTs (L := rws n)
  unfold machD
  generalize (sts n).map kT = A at e4 d1 ⊢
  generalize (rws n).map kT = B at e4 d2 ⊢
  simp only [F_machine, G_machine, ev_fBin, ev_fUn, ev_fCons, ev_fApp, ev_fTup, ev_fLst, ev_fOfL, ev_fTest, ev_fAnd, ev_fOr, ev_fNot, ev_fAndV, ev_fOrV, ev_fNotV, ev_fIf, ev_fFrz, ev_fIter, ev_gSeq, ev_gRet, ev_gIf, ev_gSet, ev_gOwn, ev_gAsg, ev_gPar, ev_gParO, ev_gAug, ev_gApp, ev_gExt, ev_gPut, ev_gFor, ev_fSl, ev_fPart, ev_fRepL, ev_fChain, ev_run, ev_fRng1, ev_fRng2, ev_fRng3, ev_fRgL, ev_fRgT, ev_fRg1, ev_fRg2, ev_fSortSet, ev_tFrz, ev_frz_cons, ev_frz_nil, ev_var0, ev_varS, ev_C, ev_nil, ev_yes, ev_noPart, ev_next, ev_break, ev_cont, ev_no, ev_name, ev_tup2, frzC, wipeE, startE, List.length_cons, List.length_nil, List.map_cons, List.map_nil, List.replicate_succ, List.replicate_zero, List.cons_append, List.nil_append, List.getElem?_cons_zero, List.getElem?_cons_succ, List.set_cons_zero, List.set_cons_succ, Option.map_some, Option.map_none, Nat.reduceAdd, Nat.reduceSub, Nat.reduceLeDiff, if_true, ite_true, ite_false, Nat.zero_add, Nat.add_zero, Nat.sub_self, Nat.sub_zero, frzC, t0, Nat.zero_le, tl, tl1, tl2, tl3, e4, d1, d2]
end Wd

set_option Elab.async false
set_option linter.all false
set_option maxRecDepth 100000
set_option maxHeartbeats 4000000
set_option autoImplicit false
/-! counts, ring, nth, number_of -/
namespace Wd
open PySem PyProof.Rows L2 Mt
theorem mach_rows {n : Int} : dIx (machD n) (.int 1) = some (.tuple ((rws n).map kT)) := rfl
theorem dIx_rw {n : Int} {i : Nat} (h : i < (rws n).length) : dIx (.tuple ((rws n).map kT)) (.int (i : Int)) = some (kT (rwO n i)) := by
  show atI ((rws n).map kT) (i : Int) = _
  unfold rwO
  rw [atI_nat (by rw [List.length_map]; exact h), List.getElem?_map, List.getElem?_eq_getElem h, List.getD_eq_getElem?_getD, List.getElem?_eq_getElem h]
  rfl
theorem mach_rwO {n : Int} (M : Mach n) {i : Nat} (h : i < (rws n).length) : rwO n i ∈ rws n := by
  unfold Mt.rwO
  rw [List.getD_eq_getElem?_getD, List.getElem?_eq_getElem h]
  exact List.getElem_mem h
theorem dIx_il {l : List Int} {j : Int} (h0 : 0 ≤ j) (h : j < (l.length : Int)) : dIx (.list (l.map PyData.int)) (.int j) = some (.int (l.getD j.toNat 0)) := by
  have := dIx_lk (w := l) (k := j.toNat) (by omega)
  rwa [show ((j.toNat : Nat) : Int) = j by omega] at this
/-! ring -/
theorem dMul_s {x y : Int} (h : smallI x = true) : dMul (.int x) (.int y) = some (.int (x * y)) := by
  show (if (smallI x || smallI y) = true then some (PyData.int (x * y)) else none) = _
  rw [if_pos (by rw [h]; rfl)]
theorem small_of {x : Int} (h0 : -1000 ≤ x) (h : x ≤ 1000) : smallI x = true := smallI_iff.mpr ⟨by omega, by omega⟩
theorem m_ring {n : Int} {k : Nat} (h5 : 3 ≤ n) (h9 : n ≤ 100) (hk : k ≤ 1000) : F_ring [.int n, .int (k : Int)] = some (.int (rg n k)) := by
  unfold rg
  by_cases q : k < 2
  · rw [if_pos q]
    have t : decide ((k : Int) < 2) = true := decide_eq_true (by omega)
    by_cases q1 : k = 1
    · have t1 : ((k : Int) == 1) = true := by rw [q1]; rfl
      rw [if_pos q1]
      simp only [F_ring, G_ring, ev_fBin, ev_fUn, ev_fCons, ev_fApp, ev_fTup, ev_fLst, ev_fOfL, ev_fTest, ev_fAnd, ev_fOr, ev_fNot, ev_fAndV, ev_fOrV, ev_fNotV, ev_fIf, ev_fFrz, ev_fIter, ev_gSeq, ev_gRet, ev_gIf, ev_gSet, ev_gOwn, ev_gAsg, ev_gPar, ev_gParO, ev_gAug, ev_gApp, ev_gExt, ev_gPut, ev_gFor, ev_fSl, ev_fPart, ev_fRepL, ev_fChain, ev_run, ev_fRng1, ev_fRng2, ev_fRng3, ev_fRgL, ev_fRgT, ev_fRg1, ev_fRg2, ev_fSortSet, ev_tFrz, ev_frz_cons, ev_frz_nil, ev_var0, ev_varS, ev_C, ev_nil, ev_yes, ev_noPart, ev_next, ev_break, ev_cont, ev_no, ev_name, ev_tup2, frzC, wipeE, startE, List.length_cons, List.length_nil, List.map_cons, List.map_nil, List.replicate_succ, List.replicate_zero, List.cons_append, List.nil_append, List.getElem?_cons_zero, List.getElem?_cons_succ, List.set_cons_zero, List.set_cons_succ, Option.map_some, Option.map_none, Nat.reduceAdd, Nat.reduceSub, Nat.reduceLeDiff, if_true, ite_true, ite_false, Nat.zero_add, Nat.add_zero, Nat.sub_self, Nat.sub_zero, frzC, dLt_ii, t, dEq_ii, t1]
    · have t1 : ((k : Int) == 1) = false := by rw [beq_eq_false_iff_ne]; omega
      rw [if_neg q1]
      simp only [F_ring, G_ring, ev_fBin, ev_fUn, ev_fCons, ev_fApp, ev_fTup, ev_fLst, ev_fOfL, ev_fTest, ev_fAnd, ev_fOr, ev_fNot, ev_fAndV, ev_fOrV, ev_fNotV, ev_fIf, ev_fFrz, ev_fIter, ev_gSeq, ev_gRet, ev_gIf, ev_gSet, ev_gOwn, ev_gAsg, ev_gPar, ev_gParO, ev_gAug, ev_gApp, ev_gExt, ev_gPut, ev_gFor, ev_fSl, ev_fPart, ev_fRepL, ev_fChain, ev_run, ev_fRng1, ev_fRng2, ev_fRng3, ev_fRgL, ev_fRgT, ev_fRg1, ev_fRg2, ev_fSortSet, ev_tFrz, ev_frz_cons, ev_frz_nil, ev_var0, ev_varS, ev_C, ev_nil, ev_yes, ev_noPart, ev_next, ev_break, ev_cont, ev_no, ev_name, ev_tup2, frzC, wipeE, startE, List.length_cons, List.length_nil, List.map_cons, List.map_nil, List.replicate_succ, List.replicate_zero, List.cons_append, List.nil_append, List.getElem?_cons_zero, List.getElem?_cons_succ, List.set_cons_zero, List.set_cons_succ, Option.map_some, Option.map_none, Nat.reduceAdd, Nat.reduceSub, Nat.reduceLeDiff, if_true, ite_true, ite_false, Nat.zero_add, Nat.add_zero, Nat.sub_self, Nat.sub_zero, frzC, dLt_ii, t, dEq_ii, t1]
  · rw [if_neg q]
    have t : decide ((k : Int) < 2) = false := decide_eq_false (by omega)
    obtain ⟨ρ', e, c4, h⟩ := loop_inv (g := sName 4) (B := B_ring_0) (i := fun j : Nat => PyData.int ((0 : Int) + (j : Int))) (l := List.range (k - 2))
      (Inv := fun pre ρ => ∃ c4, ρ = [some (.dat (.int n)), some (.dat (.int (k : Int))), some (.dat (.int (rg2 n pre.length).1)), some (.dat (.int (rg2 n pre.length).2)), c4])
      (fun pre j post ρ hp ⟨c4, hρ⟩ => by
        subst hρ
        have e1 : (rg2 n (pre ++ [j]).length).1 = (rg2 n pre.length).2 := by rw [List.length_append, List.length_singleton]; rfl
        have e2 : (rg2 n (pre ++ [j]).length).2 = (n - 2) * (rg2 n pre.length).2 - (rg2 n pre.length).1 := by rw [List.length_append, List.length_singleton]; rfl
        refine ⟨_, _, rfl, .inl ?_, some (.dat (.int ((0 : Int) + (j : Int)))), rfl⟩
        rw [e1, e2]
        have ms : dMul (.int (n - 2)) (.int (rg2 n pre.length).2) = some (.int ((n - 2) * (rg2 n pre.length).2)) := dMul_s (small_of (by omega) (by omega))
        generalize (rg2 n pre.length).1 = x at ms ⊢
        generalize (rg2 n pre.length).2 = y at ms ⊢
        simp only [B_ring_0, ev_fBin, ev_fUn, ev_fCons, ev_fApp, ev_fTup, ev_fLst, ev_fOfL, ev_fTest, ev_fAnd, ev_fOr, ev_fNot, ev_fAndV, ev_fOrV, ev_fNotV, ev_fIf, ev_fFrz, ev_fIter, ev_gSeq, ev_gRet, ev_gIf, ev_gSet, ev_gOwn, ev_gAsg, ev_gPar, ev_gParO, ev_gAug, ev_gApp, ev_gExt, ev_gPut, ev_gFor, ev_fSl, ev_fPart, ev_fRepL, ev_fChain, ev_run, ev_fRng1, ev_fRng2, ev_fRng3, ev_fRgL, ev_fRgT, ev_fRg1, ev_fRg2, ev_fSortSet, ev_tFrz, ev_frz_cons, ev_frz_nil, ev_var0, ev_varS, ev_C, ev_nil, ev_yes, ev_noPart, ev_next, ev_break, ev_cont, ev_no, ev_name, ev_tup2, frzC, wipeE, startE, List.length_cons, List.length_nil, List.map_cons, List.map_nil, List.replicate_succ, List.replicate_zero, List.cons_append, List.nil_append, List.getElem?_cons_zero, List.getElem?_cons_succ, List.set_cons_zero, List.set_cons_succ, Option.map_some, Option.map_none, Nat.reduceAdd, Nat.reduceSub, Nat.reduceLeDiff, if_true, ite_true, ite_false, Nat.zero_add, Nat.add_zero, Nat.sub_self, Nat.sub_zero, dSub_ii, ms])
      (ρ := [some (.dat (.int n)), some (.dat (.int (k : Int))), some (.dat (.int n)), some (.dat (.int (n * (n - 2)))), none]) ⟨none, rfl⟩
    rw [List.length_range] at h
    subst h
    have ms : dMul (.int n) (.int (n - 2)) = some (.int (n * (n - 2))) := dMul_s (small_of (by omega) (by omega))
    have kn : okI ((k : Int) - 2) = true := okI_of (by omega) (by omega)
    have tn : ((k : Int) - 2).toNat = k - 2 := by omega
    simp only [F_ring, G_ring, ev_fBin, ev_fUn, ev_fCons, ev_fApp, ev_fTup, ev_fLst, ev_fOfL, ev_fTest, ev_fAnd, ev_fOr, ev_fNot, ev_fAndV, ev_fOrV, ev_fNotV, ev_fIf, ev_fFrz, ev_fIter, ev_gSeq, ev_gRet, ev_gIf, ev_gSet, ev_gOwn, ev_gAsg, ev_gPar, ev_gParO, ev_gAug, ev_gApp, ev_gExt, ev_gPut, ev_gFor, ev_fSl, ev_fPart, ev_fRepL, ev_fChain, ev_run, ev_fRng1, ev_fRng2, ev_fRng3, ev_fRgL, ev_fRgT, ev_fRg1, ev_fRg2, ev_fSortSet, ev_tFrz, ev_frz_cons, ev_frz_nil, ev_var0, ev_varS, ev_C, ev_nil, ev_yes, ev_noPart, ev_next, ev_break, ev_cont, ev_no, ev_name, ev_tup2, frzC, wipeE, startE, List.length_cons, List.length_nil, List.map_cons, List.map_nil, List.replicate_succ, List.replicate_zero, List.cons_append, List.nil_append, List.getElem?_cons_zero, List.getElem?_cons_succ, List.set_cons_zero, List.set_cons_succ, Option.map_some, Option.map_none, Nat.reduceAdd, Nat.reduceSub, Nat.reduceLeDiff, if_true, ite_true, ite_false, Nat.zero_add, Nat.add_zero, Nat.sub_self, Nat.sub_zero, frzC, dLt_ii, t, dSub_ii, ms, kn, tn, rngD_map, e]
end Wd

set_option Elab.async false
set_option linter.all false
set_option maxRecDepth 100000
set_option maxHeartbeats 4000000
set_option autoImplicit false
/-! figures, grown towns -/
namespace Wd
open PySem PyProof.Rows L2 Mt
/-- comprehensions of two clauses -/
theorem fcatO_all {α β : Type} {f : α → Option (List β)} {o : α → List β} : ∀ {l : List α}, (∀ a ∈ l, f a = some (o a)) → fcatO f l = some (l.flatMap o)
  | [], _ => rfl
  | a :: l, h => by
    show (match f a with
      | some bs => match fcatO f l with
        | some cs => some (bs ++ cs)
        | none => none
      | none => none) = _
    rw [h a (.head _), fcatO_all fun b hb => h b (.tail _ hb)]
    rfl
theorem fcatO_map {α β γ : Type} {f : β → Option (List γ)} {g : α → β} : ∀ {l : List α}, fcatO f (l.map g) = fcatO (fun a => f (g a)) l
  | [] => rfl
  | a :: l => by
    show (match f (g a) with
      | some bs => match fcatO f (l.map g) with
        | some cs => some (bs ++ cs)
        | none => none
      | none => none) = _
    rw [fcatO_map]
    rfl
theorem fLc2_flat {γ : Type} {L L1 : FA} {vs vs1 : List Nat} {f f1 : D → Env → Option Env} {T : FT} {E : F1} {ρ : Env} {l : List γ} {i : γ → D} {o : γ → List D} (hL : L ρ = some (l.map i)) (h : ∀ c ∈ l, lc2Turn vs f L1 vs1 f1 T E ρ (i c) = some (o c)) (hlen : (l.flatMap o).length ≤ 100000) :
    fLc2 L vs f L1 vs1 f1 T E ρ = some (l.flatMap o) := by
  rw [ev_fLc2, hL]
  show (match fcatO (lc2Turn vs f L1 vs1 f1 T E ρ) (l.map i) with
    | some ys => if ys.length ≤ 100000 then some ys else none
    | none => none) = _
  rw [fcatO_map, fcatO_all h]
  exact if_pos hlen
/-- the inner clause -/
theorem fmapO_filter {α γ : Type} {f : D → Option (Option α)} {i : γ → D} {o : γ → α} {p : γ → Bool} : ∀ {l : List γ}, (∀ c ∈ l, f (i c) = some (if p c = true then some (o c) else none)) → fmapO f (l.map i) = some ((l.filter p).map o)
  | [], _ => rfl
  | c :: l, h => by
    have ih := fmapO_filter fun d hd => h d (.tail _ hd)
    have hc := h c (.head _)
    cases q : p c with
    | true => rw [q, if_pos rfl] at hc; simp only [List.map_cons, fmapO, hc, ih, List.filter_cons, q, if_true]
    | false => rw [q, if_neg Bool.false_ne_true] at hc; simp only [List.map_cons, fmapO, hc, ih, List.filter_cons, q]; rfl
theorem fmapO_mapX {α γ : Type} {f : D → Option (Option α)} {i : γ → D} {o : γ → α} {l : List γ} (h : ∀ c ∈ l, f (i c) = some (some (o c))) : fmapO f (l.map i) = some (l.map o) := by
  have := fmapO_filter (f := f) (i := i) (o := o) (p := fun _ => true) (l := l) fun c hc => by rw [if_pos rfl]; exact h c hc
  rwa [List.filter_eq_self.mpr fun _ _ => rfl] at this
theorem kT_map {α : Type} {f : α → Wrd} {l : List α} : (l.map fun a => kT (f a)) = (l.map f).map kT := by rw [List.map_map]; rfl
theorem dTuple_ws {l : List Wrd} : dTuple [.list (l.map kT)] = some (.tuple (l.map kT)) := rfl
theorem dedup_ddp : ∀ l : List Wrd, dedup l = ddp l
  | [] => rfl
  | a :: l => by unfold dedup ddp; rw [dedup_ddp l]
theorem sortRows_same {A B : List Wrd} (h : SameS A B) : sortRows A = sortRows B := sortRows_of (nodup_dedup A) fun a => (mem_dedup (l := A)).trans (h a)
theorem mem_sortRows {A : List Wrd} : SameS (sortRows A) A := fun c => by
  unfold sortRows
  exact List.mem_mergeSort.trans mem_dedup
/-- a town as data -/
abbrev tw (A : List Wrd) : D := .tuple (A.map kT)
theorem m_figure {A : List Wrd} (h : (dedup A).length ≤ 306) : F_figure [.list (A.map kT)] = some (tw (sortRows A)) := by
  have e := dSortSet_few h
  generalize A.map kT = Z at e
  simp only [F_figure, G_figure, ev_fBin, ev_fUn, ev_fCons, ev_fApp, ev_fTup, ev_fLst, ev_fOfL, ev_fTest, ev_fAnd, ev_fOr, ev_fNot, ev_fAndV, ev_fOrV, ev_fNotV, ev_fIf, ev_fFrz, ev_fIter, ev_gSeq, ev_gRet, ev_gIf, ev_gSet, ev_gOwn, ev_gAsg, ev_gPar, ev_gParO, ev_gAug, ev_gApp, ev_gExt, ev_gPut, ev_gFor, ev_fSl, ev_fPart, ev_fRepL, ev_fChain, ev_run, ev_fRng1, ev_fRng2, ev_fRng3, ev_fRgL, ev_fRgT, ev_fRg1, ev_fRg2, ev_fSortSet, ev_tFrz, ev_frz_cons, ev_frz_nil, ev_var0, ev_varS, ev_C, ev_nil, ev_yes, ev_noPart, ev_next, ev_break, ev_cont, ev_no, ev_name, ev_tup2, frzC, wipeE, startE, List.length_cons, List.length_nil, List.map_cons, List.map_nil, List.replicate_succ, List.replicate_zero, List.cons_append, List.nil_append, List.getElem?_cons_zero, List.getElem?_cons_succ, List.set_cons_zero, List.set_cons_succ, Option.map_some, Option.map_none, Nat.reduceAdd, Nat.reduceSub, Nat.reduceLeDiff, if_true, ite_true, ite_false, Nat.zero_add, Nat.add_zero, Nat.sub_self, Nat.sub_zero, frzC, e, dTuple_ws]
end Wd

set_option Elab.async false
set_option linter.all false
set_option maxRecDepth 100000
set_option maxHeartbeats 4000000
set_option autoImplicit false
/-! turns, moved -/
namespace Wd
open PySem PyProof.Rows L2 Mt
theorem rng_sides {n : Int} : rngD 0 n.toNat = (sides n).map PyData.int := by
  unfold rngD sides
  rw [List.map_map]
  apply List.map_congr_left
  intro i _
  show PyData.int ((0 : Int) + (i : Int)) = PyData.int (i : Int)
  rw [Int.zero_add]
theorem dTuple_m {w : Wrd} : dTuple [.list (w.map PyData.int)] = some (kT w) := dTuple_l
theorem c_turns {n : Int} (h3 : 3 ≤ n) (hn : n ≤ 1000) {c1 c3 : Option Cell} : C_turns_3 [some (.dat (.int n)), c1, none, c3] = some ((sides n).map fun b => kT ((sides n).map fun k => (k + b) % n)) := by
  have kn : okI n = true := okI_of (by omega) (by omega)
  refine fLc_map (l := sides n) (i := PyData.int) ?_ (by rw [sides_len]; omega) fun b hb => ?_
  · simp only [ev_fBin, ev_fUn, ev_fCons, ev_fApp, ev_fTup, ev_fLst, ev_fOfL, ev_fTest, ev_fAnd, ev_fOr, ev_fNot, ev_fAndV, ev_fOrV, ev_fNotV, ev_fIf, ev_fFrz, ev_fIter, ev_gSeq, ev_gRet, ev_gIf, ev_gSet, ev_gOwn, ev_gAsg, ev_gPar, ev_gParO, ev_gAug, ev_gApp, ev_gExt, ev_gPut, ev_gFor, ev_fSl, ev_fPart, ev_fRepL, ev_fChain, ev_run, ev_fRng1, ev_fRng2, ev_fRng3, ev_fRgL, ev_fRgT, ev_fRg1, ev_fRg2, ev_fSortSet, ev_tFrz, ev_frz_cons, ev_frz_nil, ev_var0, ev_varS, ev_C, ev_nil, ev_yes, ev_noPart, ev_next, ev_break, ev_cont, ev_no, ev_name, ev_tup2, frzC, wipeE, startE, List.length_cons, List.length_nil, List.map_cons, List.map_nil, List.replicate_succ, List.replicate_zero, List.cons_append, List.nil_append, List.getElem?_cons_zero, List.getElem?_cons_succ, List.set_cons_zero, List.set_cons_succ, Option.map_some, Option.map_none, Nat.reduceAdd, Nat.reduceSub, Nat.reduceLeDiff, if_true, ite_true, ite_false, Nat.zero_add, Nat.add_zero, Nat.sub_self, Nat.sub_zero, kn, rng_sides]
  · have e : C_turns_2 [some (.dat (.int n)), c1, some (.dat (.int b)), c3] = some ((sides n).map fun k => PyData.int ((k + b) % n)) := by
      refine fLc_map (l := sides n) (i := PyData.int) ?_ (by rw [sides_len]; omega) fun k hk => ?_
      · simp only [ev_fBin, ev_fUn, ev_fCons, ev_fApp, ev_fTup, ev_fLst, ev_fOfL, ev_fTest, ev_fAnd, ev_fOr, ev_fNot, ev_fAndV, ev_fOrV, ev_fNotV, ev_fIf, ev_fFrz, ev_fIter, ev_gSeq, ev_gRet, ev_gIf, ev_gSet, ev_gOwn, ev_gAsg, ev_gPar, ev_gParO, ev_gAug, ev_gApp, ev_gExt, ev_gPut, ev_gFor, ev_fSl, ev_fPart, ev_fRepL, ev_fChain, ev_run, ev_fRng1, ev_fRng2, ev_fRng3, ev_fRgL, ev_fRgT, ev_fRg1, ev_fRg2, ev_fSortSet, ev_tFrz, ev_frz_cons, ev_frz_nil, ev_var0, ev_varS, ev_C, ev_nil, ev_yes, ev_noPart, ev_next, ev_break, ev_cont, ev_no, ev_name, ev_tup2, frzC, wipeE, startE, List.length_cons, List.length_nil, List.map_cons, List.map_nil, List.replicate_succ, List.replicate_zero, List.cons_append, List.nil_append, List.getElem?_cons_zero, List.getElem?_cons_succ, List.set_cons_zero, List.set_cons_succ, Option.map_some, Option.map_none, Nat.reduceAdd, Nat.reduceSub, Nat.reduceLeDiff, if_true, ite_true, ite_false, Nat.zero_add, Nat.add_zero, Nat.sub_self, Nat.sub_zero, kn, rng_sides]
      · simp only [ev_lcTurn, ev_fBin, ev_fUn, ev_fCons, ev_fApp, ev_fTup, ev_fLst, ev_fOfL, ev_fTest, ev_fAnd, ev_fOr, ev_fNot, ev_fAndV, ev_fOrV, ev_fNotV, ev_fIf, ev_fFrz, ev_fIter, ev_gSeq, ev_gRet, ev_gIf, ev_gSet, ev_gOwn, ev_gAsg, ev_gPar, ev_gParO, ev_gAug, ev_gApp, ev_gExt, ev_gPut, ev_gFor, ev_fSl, ev_fPart, ev_fRepL, ev_fChain, ev_run, ev_fRng1, ev_fRng2, ev_fRng3, ev_fRgL, ev_fRgT, ev_fRg1, ev_fRg2, ev_fSortSet, ev_tFrz, ev_frz_cons, ev_frz_nil, ev_var0, ev_varS, ev_C, ev_nil, ev_yes, ev_noPart, ev_next, ev_break, ev_cont, ev_no, ev_name, ev_tup2, frzC, wipeE, startE, List.length_cons, List.length_nil, List.map_cons, List.map_nil, List.replicate_succ, List.replicate_zero, List.cons_append, List.nil_append, List.getElem?_cons_zero, List.getElem?_cons_succ, List.set_cons_zero, List.set_cons_succ, Option.map_some, Option.map_none, Nat.reduceAdd, Nat.reduceSub, Nat.reduceLeDiff, if_true, ite_true, ite_false, Nat.zero_add, Nat.add_zero, Nat.sub_self, Nat.sub_zero, dAdd_ii, dMod_ok (show 0 < n by omega)]
    have e2 : ((sides n).map fun k => PyData.int ((k + b) % n)) = ((sides n).map fun k => (k + b) % n).map PyData.int := by rw [List.map_map]; rfl
    rw [e2] at e
    simp only [ev_lcTurn, ev_fBin, ev_fUn, ev_fCons, ev_fApp, ev_fTup, ev_fLst, ev_fOfL, ev_fTest, ev_fAnd, ev_fOr, ev_fNot, ev_fAndV, ev_fOrV, ev_fNotV, ev_fIf, ev_fFrz, ev_fIter, ev_gSeq, ev_gRet, ev_gIf, ev_gSet, ev_gOwn, ev_gAsg, ev_gPar, ev_gParO, ev_gAug, ev_gApp, ev_gExt, ev_gPut, ev_gFor, ev_fSl, ev_fPart, ev_fRepL, ev_fChain, ev_run, ev_fRng1, ev_fRng2, ev_fRng3, ev_fRgL, ev_fRgT, ev_fRg1, ev_fRg2, ev_fSortSet, ev_tFrz, ev_frz_cons, ev_frz_nil, ev_var0, ev_varS, ev_C, ev_nil, ev_yes, ev_noPart, ev_next, ev_break, ev_cont, ev_no, ev_name, ev_tup2, frzC, wipeE, startE, List.length_cons, List.length_nil, List.map_cons, List.map_nil, List.replicate_succ, List.replicate_zero, List.cons_append, List.nil_append, List.getElem?_cons_zero, List.getElem?_cons_succ, List.set_cons_zero, List.set_cons_succ, Option.map_some, Option.map_none, Nat.reduceAdd, Nat.reduceSub, Nat.reduceLeDiff, if_true, ite_true, ite_false, Nat.zero_add, Nat.add_zero, Nat.sub_self, Nat.sub_zero, e, dTuple_m]
theorem c_turns1 {n : Int} (h3 : 3 ≤ n) (hn : n ≤ 1000) {c1 c3 : Option Cell} : C_turns_1 [some (.dat (.int n)), c1, none, c3] = some ((sides n).map fun b => kT ((sides n).map fun k => (b - k) % n)) := by
  have kn : okI n = true := okI_of (by omega) (by omega)
  refine fLc_map (l := sides n) (i := PyData.int) ?_ (by rw [sides_len]; omega) fun b hb => ?_
  · simp only [ev_fBin, ev_fUn, ev_fCons, ev_fApp, ev_fTup, ev_fLst, ev_fOfL, ev_fTest, ev_fAnd, ev_fOr, ev_fNot, ev_fAndV, ev_fOrV, ev_fNotV, ev_fIf, ev_fFrz, ev_fIter, ev_gSeq, ev_gRet, ev_gIf, ev_gSet, ev_gOwn, ev_gAsg, ev_gPar, ev_gParO, ev_gAug, ev_gApp, ev_gExt, ev_gPut, ev_gFor, ev_fSl, ev_fPart, ev_fRepL, ev_fChain, ev_run, ev_fRng1, ev_fRng2, ev_fRng3, ev_fRgL, ev_fRgT, ev_fRg1, ev_fRg2, ev_fSortSet, ev_tFrz, ev_frz_cons, ev_frz_nil, ev_var0, ev_varS, ev_C, ev_nil, ev_yes, ev_noPart, ev_next, ev_break, ev_cont, ev_no, ev_name, ev_tup2, frzC, wipeE, startE, List.length_cons, List.length_nil, List.map_cons, List.map_nil, List.replicate_succ, List.replicate_zero, List.cons_append, List.nil_append, List.getElem?_cons_zero, List.getElem?_cons_succ, List.set_cons_zero, List.set_cons_succ, Option.map_some, Option.map_none, Nat.reduceAdd, Nat.reduceSub, Nat.reduceLeDiff, if_true, ite_true, ite_false, Nat.zero_add, Nat.add_zero, Nat.sub_self, Nat.sub_zero, kn, rng_sides]
  · have e : C_turns_0 [some (.dat (.int n)), c1, some (.dat (.int b)), c3] = some ((sides n).map fun k => PyData.int ((b - k) % n)) := by
      refine fLc_map (l := sides n) (i := PyData.int) ?_ (by rw [sides_len]; omega) fun k hk => ?_
      · simp only [ev_fBin, ev_fUn, ev_fCons, ev_fApp, ev_fTup, ev_fLst, ev_fOfL, ev_fTest, ev_fAnd, ev_fOr, ev_fNot, ev_fAndV, ev_fOrV, ev_fNotV, ev_fIf, ev_fFrz, ev_fIter, ev_gSeq, ev_gRet, ev_gIf, ev_gSet, ev_gOwn, ev_gAsg, ev_gPar, ev_gParO, ev_gAug, ev_gApp, ev_gExt, ev_gPut, ev_gFor, ev_fSl, ev_fPart, ev_fRepL, ev_fChain, ev_run, ev_fRng1, ev_fRng2, ev_fRng3, ev_fRgL, ev_fRgT, ev_fRg1, ev_fRg2, ev_fSortSet, ev_tFrz, ev_frz_cons, ev_frz_nil, ev_var0, ev_varS, ev_C, ev_nil, ev_yes, ev_noPart, ev_next, ev_break, ev_cont, ev_no, ev_name, ev_tup2, frzC, wipeE, startE, List.length_cons, List.length_nil, List.map_cons, List.map_nil, List.replicate_succ, List.replicate_zero, List.cons_append, List.nil_append, List.getElem?_cons_zero, List.getElem?_cons_succ, List.set_cons_zero, List.set_cons_succ, Option.map_some, Option.map_none, Nat.reduceAdd, Nat.reduceSub, Nat.reduceLeDiff, if_true, ite_true, ite_false, Nat.zero_add, Nat.add_zero, Nat.sub_self, Nat.sub_zero, kn, rng_sides]
      · simp only [ev_lcTurn, ev_fBin, ev_fUn, ev_fCons, ev_fApp, ev_fTup, ev_fLst, ev_fOfL, ev_fTest, ev_fAnd, ev_fOr, ev_fNot, ev_fAndV, ev_fOrV, ev_fNotV, ev_fIf, ev_fFrz, ev_fIter, ev_gSeq, ev_gRet, ev_gIf, ev_gSet, ev_gOwn, ev_gAsg, ev_gPar, ev_gParO, ev_gAug, ev_gApp, ev_gExt, ev_gPut, ev_gFor, ev_fSl, ev_fPart, ev_fRepL, ev_fChain, ev_run, ev_fRng1, ev_fRng2, ev_fRng3, ev_fRgL, ev_fRgT, ev_fRg1, ev_fRg2, ev_fSortSet, ev_tFrz, ev_frz_cons, ev_frz_nil, ev_var0, ev_varS, ev_C, ev_nil, ev_yes, ev_noPart, ev_next, ev_break, ev_cont, ev_no, ev_name, ev_tup2, frzC, wipeE, startE, List.length_cons, List.length_nil, List.map_cons, List.map_nil, List.replicate_succ, List.replicate_zero, List.cons_append, List.nil_append, List.getElem?_cons_zero, List.getElem?_cons_succ, List.set_cons_zero, List.set_cons_succ, Option.map_some, Option.map_none, Nat.reduceAdd, Nat.reduceSub, Nat.reduceLeDiff, if_true, ite_true, ite_false, Nat.zero_add, Nat.add_zero, Nat.sub_self, Nat.sub_zero, dSub_ii, dMod_ok (show 0 < n by omega)]
    have e2 : ((sides n).map fun k => PyData.int ((b - k) % n)) = ((sides n).map fun k => (b - k) % n).map PyData.int := by rw [List.map_map]; rfl
    rw [e2] at e
    simp only [ev_lcTurn, ev_fBin, ev_fUn, ev_fCons, ev_fApp, ev_fTup, ev_fLst, ev_fOfL, ev_fTest, ev_fAnd, ev_fOr, ev_fNot, ev_fAndV, ev_fOrV, ev_fNotV, ev_fIf, ev_fFrz, ev_fIter, ev_gSeq, ev_gRet, ev_gIf, ev_gSet, ev_gOwn, ev_gAsg, ev_gPar, ev_gParO, ev_gAug, ev_gApp, ev_gExt, ev_gPut, ev_gFor, ev_fSl, ev_fPart, ev_fRepL, ev_fChain, ev_run, ev_fRng1, ev_fRng2, ev_fRng3, ev_fRgL, ev_fRgT, ev_fRg1, ev_fRg2, ev_fSortSet, ev_tFrz, ev_frz_cons, ev_frz_nil, ev_var0, ev_varS, ev_C, ev_nil, ev_yes, ev_noPart, ev_next, ev_break, ev_cont, ev_no, ev_name, ev_tup2, frzC, wipeE, startE, List.length_cons, List.length_nil, List.map_cons, List.map_nil, List.replicate_succ, List.replicate_zero, List.cons_append, List.nil_append, List.getElem?_cons_zero, List.getElem?_cons_succ, List.set_cons_zero, List.set_cons_succ, Option.map_some, Option.map_none, Nat.reduceAdd, Nat.reduceSub, Nat.reduceLeDiff, if_true, ite_true, ite_false, Nat.zero_add, Nat.add_zero, Nat.sub_self, Nat.sub_zero, e, dTuple_m]
theorem m_turns {n : Int} (h3 : 3 ≤ n) (hn : n ≤ 1000) : F_turns [.int n] = some (.list ((turnsL n).map kT)) := by
  have e3 := c_turns (c1 := none) (c3 := none) h3 hn
  have e1 := fun (x : Option Cell) => c_turns1 (c1 := x) (c3 := none) h3 hn
  have ea := dAdd_l (u := (sides n).map fun b => kT ((sides n).map fun k => (k + b) % n)) (w := (sides n).map fun b => kT ((sides n).map fun k => (b - k) % n)) (by rw [List.length_map, List.length_map, sides_len]; omega)
  have et : ((sides n).map fun b => kT ((sides n).map fun k => (k + b) % n)) ++ ((sides n).map fun b => kT ((sides n).map fun k => (b - k) % n)) = (turnsL n).map kT := by
    unfold turnsL
    rw [List.map_append, List.map_map, List.map_map]
    rfl
  rw [et] at ea
  generalize ((sides n).map fun b => kT ((sides n).map fun k => (k + b) % n)) = A at e3 ea
  generalize ((sides n).map fun b => kT ((sides n).map fun k => (b - k) % n)) = B at e1 ea
  simp only [F_turns, G_turns, ev_fBin, ev_fUn, ev_fCons, ev_fApp, ev_fTup, ev_fLst, ev_fOfL, ev_fTest, ev_fAnd, ev_fOr, ev_fNot, ev_fAndV, ev_fOrV, ev_fNotV, ev_fIf, ev_fFrz, ev_fIter, ev_gSeq, ev_gRet, ev_gIf, ev_gSet, ev_gOwn, ev_gAsg, ev_gPar, ev_gParO, ev_gAug, ev_gApp, ev_gExt, ev_gPut, ev_gFor, ev_fSl, ev_fPart, ev_fRepL, ev_fChain, ev_run, ev_fRng1, ev_fRng2, ev_fRng3, ev_fRgL, ev_fRgT, ev_fRg1, ev_fRg2, ev_fSortSet, ev_tFrz, ev_frz_cons, ev_frz_nil, ev_var0, ev_varS, ev_C, ev_nil, ev_yes, ev_noPart, ev_next, ev_break, ev_cont, ev_no, ev_name, ev_tup2, frzC, wipeE, startE, List.length_cons, List.length_nil, List.map_cons, List.map_nil, List.replicate_succ, List.replicate_zero, List.cons_append, List.nil_append, List.getElem?_cons_zero, List.getElem?_cons_succ, List.set_cons_zero, List.set_cons_succ, Option.map_some, Option.map_none, Nat.reduceAdd, Nat.reduceSub, Nat.reduceLeDiff, if_true, ite_true, ite_false, Nat.zero_add, Nat.add_zero, Nat.sub_self, Nat.sub_zero, frzC, e3, e1, ea]
/-- a motion as data -/
def mo (n : Int) (g : Wrd) (F : Int → Int) : D := .tuple [kT g, kT ((sides n).map F)]
theorem dIx_turn {n a : Int} {F : Int → Int} (ha : 0 ≤ a ∧ a < n) : dIx (kT ((sides n).map F)) (.int a) = some (.int (F a)) := by
  have hk : a.toNat < ((sides n).map F).length := by rw [List.length_map, sides_len]; omega
  have := dIx_k (w := (sides n).map F) hk
  rw [show ((a.toNat : Nat) : Int) = a by omega] at this
  rw [this, List.getD_eq_getElem?_getD, List.getElem?_map, sides_get ha]
  rfl
theorem m_moved {n : Int} {g c : Wrd} {F G : Int → Int} (h3 : 3 ≤ n) (T : Trn n F G) (hg : NF n g) (hc : NF n c) (hl : g.length + c.length ≤ 4000) : F_moved [.int n, mo n g F, kT c] = some (kT (mv n g F c)) := by
  have hT := T.inR hc.ir
  have e1 := m_in_form h3 hT (by rw [List.length_map]; omega)
  have e2 := m_times h3 hg.ir (inR_form hT) (by rw [form_len, List.length_map]; omega)
  have e0 : C_moved_0 [some (.dat (.int n)), some (.dat (mo n g F)), some (.dat (kT c)), some (.dat (kT g)), some (.dat (kT ((sides n).map F))), none] = some (c.map fun s => PyData.int (F s)) := by
    refine fLc_map (l := c) (i := PyData.int) ?_ (by omega) fun s hs => ?_
    · simp only [ev_fBin, ev_fUn, ev_fCons, ev_fApp, ev_fTup, ev_fLst, ev_fOfL, ev_fTest, ev_fAnd, ev_fOr, ev_fNot, ev_fAndV, ev_fOrV, ev_fNotV, ev_fIf, ev_fFrz, ev_fIter, ev_gSeq, ev_gRet, ev_gIf, ev_gSet, ev_gOwn, ev_gAsg, ev_gPar, ev_gParO, ev_gAug, ev_gApp, ev_gExt, ev_gPut, ev_gFor, ev_fSl, ev_fPart, ev_fRepL, ev_fChain, ev_run, ev_fRng1, ev_fRng2, ev_fRng3, ev_fRgL, ev_fRgT, ev_fRg1, ev_fRg2, ev_fSortSet, ev_tFrz, ev_frz_cons, ev_frz_nil, ev_var0, ev_varS, ev_C, ev_nil, ev_yes, ev_noPart, ev_next, ev_break, ev_cont, ev_no, ev_name, ev_tup2, frzC, wipeE, startE, List.length_cons, List.length_nil, List.map_cons, List.map_nil, List.replicate_succ, List.replicate_zero, List.cons_append, List.nil_append, List.getElem?_cons_zero, List.getElem?_cons_succ, List.set_cons_zero, List.set_cons_succ, Option.map_some, Option.map_none, Nat.reduceAdd, Nat.reduceSub, Nat.reduceLeDiff, if_true, ite_true, ite_false, Nat.zero_add, Nat.add_zero, Nat.sub_self, Nat.sub_zero]
      rfl
    · simp only [ev_lcTurn, ev_fBin, ev_fUn, ev_fCons, ev_fApp, ev_fTup, ev_fLst, ev_fOfL, ev_fTest, ev_fAnd, ev_fOr, ev_fNot, ev_fAndV, ev_fOrV, ev_fNotV, ev_fIf, ev_fFrz, ev_fIter, ev_gSeq, ev_gRet, ev_gIf, ev_gSet, ev_gOwn, ev_gAsg, ev_gPar, ev_gParO, ev_gAug, ev_gApp, ev_gExt, ev_gPut, ev_gFor, ev_fSl, ev_fPart, ev_fRepL, ev_fChain, ev_run, ev_fRng1, ev_fRng2, ev_fRng3, ev_fRgL, ev_fRgT, ev_fRg1, ev_fRg2, ev_fSortSet, ev_tFrz, ev_frz_cons, ev_frz_nil, ev_var0, ev_varS, ev_C, ev_nil, ev_yes, ev_noPart, ev_next, ev_break, ev_cont, ev_no, ev_name, ev_tup2, frzC, wipeE, startE, List.length_cons, List.length_nil, List.map_cons, List.map_nil, List.replicate_succ, List.replicate_zero, List.cons_append, List.nil_append, List.getElem?_cons_zero, List.getElem?_cons_succ, List.set_cons_zero, List.set_cons_succ, Option.map_some, Option.map_none, Nat.reduceAdd, Nat.reduceSub, Nat.reduceLeDiff, if_true, ite_true, ite_false, Nat.zero_add, Nat.add_zero, Nat.sub_self, Nat.sub_zero, dIx_turn (hc.ir s hs)]
  have e4 : (c.map fun s => PyData.int (F s)) = (c.map F).map PyData.int := by rw [List.map_map]; rfl
  rw [e4] at e0
  unfold mo at e0 ⊢
  unfold mv
  simp only [F_moved, G_moved, ev_fBin, ev_fUn, ev_fCons, ev_fApp, ev_fTup, ev_fLst, ev_fOfL, ev_fTest, ev_fAnd, ev_fOr, ev_fNot, ev_fAndV, ev_fOrV, ev_fNotV, ev_fIf, ev_fFrz, ev_fIter, ev_gSeq, ev_gRet, ev_gIf, ev_gSet, ev_gOwn, ev_gAsg, ev_gPar, ev_gParO, ev_gAug, ev_gApp, ev_gExt, ev_gPut, ev_gFor, ev_fSl, ev_fPart, ev_fRepL, ev_fChain, ev_run, ev_fRng1, ev_fRng2, ev_fRng3, ev_fRgL, ev_fRgT, ev_fRg1, ev_fRg2, ev_fSortSet, ev_tFrz, ev_frz_cons, ev_frz_nil, ev_var0, ev_varS, ev_C, ev_nil, ev_yes, ev_noPart, ev_next, ev_break, ev_cont, ev_no, ev_name, ev_tup2, frzC, wipeE, startE, List.length_cons, List.length_nil, List.map_cons, List.map_nil, List.replicate_succ, List.replicate_zero, List.cons_append, List.nil_append, List.getElem?_cons_zero, List.getElem?_cons_succ, List.set_cons_zero, List.set_cons_succ, Option.map_some, Option.map_none, Nat.reduceAdd, Nat.reduceSub, Nat.reduceLeDiff, if_true, ite_true, ite_false, Nat.zero_add, Nat.add_zero, Nat.sub_self, Nat.sub_zero, frzC, e0, dTuple_m, e1, e2]
theorem mv_len {n : Int} {g c : Wrd} {F : Int → Int} : (mv n g F c).length ≤ g.length + c.length := by
  have := tms_len_le (n := n) (c := g) (w := form n (c.map F))
  rw [form_len, List.length_map] at this
  exact this
end Wd

set_option Elab.async false
set_option linter.all false
set_option maxRecDepth 100000
set_option maxHeartbeats 4000000
set_option autoImplicit false
/-! moved and grown towns, beats -/
namespace Wd
open PySem PyProof.Rows L2 Mt
/-- a town of addresses of bounded lengths -/
structure Twn (n : Int) (A : List Wrd) (m : Nat) : Prop where
  nf : ∀ c ∈ A, Mt.NF n c
  len : ∀ c ∈ A, c.length ≤ m
theorem Twn.sort {n : Int} {A : List Wrd} {m : Nat} (h : Twn n A m) : Twn n (sortRows A) m := ⟨fun c hc => h.nf c ((mem_sortRows c).mp hc), fun c hc => h.len c ((mem_sortRows c).mp hc)⟩
theorem flat_len {α β : Type} {f : α → List β} {k : Nat} : ∀ {l : List α}, (∀ a ∈ l, (f a).length ≤ k) → (l.flatMap f).length ≤ l.length * k
  | [], _ => by simp
  | a :: l, h => by
    rw [List.flatMap_cons, List.length_append, List.length_cons]
    have h1 := h a (.head _)
    have h2 := flat_len fun b hb => h b (.tail _ hb)
    rw [Nat.add_mul]
    omega
theorem m_moved_figure {n : Int} {g : Wrd} {F G : Int → Int} {A : List Wrd} {m : Nat} (h3 : 3 ≤ n) (T : Trn n F G) (hg : Mt.NF n g) (h : Twn n A m) (hl : g.length + m ≤ 4000) (few : A.length ≤ 306) :
    F_moved_figure [.int n, mo n g F, tw A] = some (tw (sortRows (mvL n g F A))) := by
  have e : C_moved_figure_0 [some (.dat (.int n)), some (.dat (mo n g F)), some (.dat (tw A)), none] = some ((mvL n g F A).map kT) := by
    have := fLc_map (L := fIter (fVar 2)) (vs := [3]) (g := sName 3) (T := fYes) (E := fApp F_moved (fCons (fVar 0) (fCons (fVar 1) (fCons (fVar 3) fNil)))) (ρ := [some (.dat (.int n)), some (.dat (mo n g F)), some (.dat (tw A)), none]) (l := A) (i := kT) (o := fun c => kT (mv n g F c)) ?_ (by omega) fun c hc => ?_
    · rw [kT_map] at this
      exact this
    · have ti : items (tw A) = some (A.map kT) := rfl
      generalize tw A = Z at ti
      generalize mo n g F = M
      simp only [ev_fBin, ev_fUn, ev_fCons, ev_fApp, ev_fTup, ev_fLst, ev_fOfL, ev_fTest, ev_fAnd, ev_fOr, ev_fNot, ev_fAndV, ev_fOrV, ev_fNotV, ev_fIf, ev_fFrz, ev_fIter, ev_gSeq, ev_gRet, ev_gIf, ev_gSet, ev_gOwn, ev_gAsg, ev_gPar, ev_gParO, ev_gAug, ev_gApp, ev_gExt, ev_gPut, ev_gFor, ev_fSl, ev_fPart, ev_fRepL, ev_fChain, ev_run, ev_fRng1, ev_fRng2, ev_fRng3, ev_fRgL, ev_fRgT, ev_fRg1, ev_fRg2, ev_fSortSet, ev_tFrz, ev_frz_cons, ev_frz_nil, ev_var0, ev_varS, ev_C, ev_nil, ev_yes, ev_noPart, ev_next, ev_break, ev_cont, ev_no, ev_name, ev_tup2, frzC, wipeE, startE, List.length_cons, List.length_nil, List.map_cons, List.map_nil, List.replicate_succ, List.replicate_zero, List.cons_append, List.nil_append, List.getElem?_cons_zero, List.getElem?_cons_succ, List.set_cons_zero, List.set_cons_succ, Option.map_some, Option.map_none, Nat.reduceAdd, Nat.reduceSub, Nat.reduceLeDiff, if_true, ite_true, ite_false, Nat.zero_add, Nat.add_zero, Nat.sub_self, Nat.sub_zero, ti]
    · have hm := m_moved h3 T hg (h.nf c hc) (by have := h.len c hc; omega)
      generalize mo n g F = M at hm
      generalize tw A = Z
      simp only [ev_lcTurn, ev_fBin, ev_fUn, ev_fCons, ev_fApp, ev_fTup, ev_fLst, ev_fOfL, ev_fTest, ev_fAnd, ev_fOr, ev_fNot, ev_fAndV, ev_fOrV, ev_fNotV, ev_fIf, ev_fFrz, ev_fIter, ev_gSeq, ev_gRet, ev_gIf, ev_gSet, ev_gOwn, ev_gAsg, ev_gPar, ev_gParO, ev_gAug, ev_gApp, ev_gExt, ev_gPut, ev_gFor, ev_fSl, ev_fPart, ev_fRepL, ev_fChain, ev_run, ev_fRng1, ev_fRng2, ev_fRng3, ev_fRgL, ev_fRgT, ev_fRg1, ev_fRg2, ev_fSortSet, ev_tFrz, ev_frz_cons, ev_frz_nil, ev_var0, ev_varS, ev_C, ev_nil, ev_yes, ev_noPart, ev_next, ev_break, ev_cont, ev_no, ev_name, ev_tup2, frzC, wipeE, startE, List.length_cons, List.length_nil, List.map_cons, List.map_nil, List.replicate_succ, List.replicate_zero, List.cons_append, List.nil_append, List.getElem?_cons_zero, List.getElem?_cons_succ, List.set_cons_zero, List.set_cons_succ, Option.map_some, Option.map_none, Nat.reduceAdd, Nat.reduceSub, Nat.reduceLeDiff, if_true, ite_true, ite_false, Nat.zero_add, Nat.add_zero, Nat.sub_self, Nat.sub_zero, hm]
  have e2 := m_figure (A := mvL n g F A) (by have := dedup_le (mvL n g F A); unfold mvL at this; rw [List.length_map] at this; unfold mvL; omega)
  generalize (mvL n g F A).map kT = Z at e e2
  generalize tw A = Z2 at e
  generalize mo n g F = M at e
  simp only [F_moved_figure, G_moved_figure, ev_fBin, ev_fUn, ev_fCons, ev_fApp, ev_fTup, ev_fLst, ev_fOfL, ev_fTest, ev_fAnd, ev_fOr, ev_fNot, ev_fAndV, ev_fOrV, ev_fNotV, ev_fIf, ev_fFrz, ev_fIter, ev_gSeq, ev_gRet, ev_gIf, ev_gSet, ev_gOwn, ev_gAsg, ev_gPar, ev_gParO, ev_gAug, ev_gApp, ev_gExt, ev_gPut, ev_gFor, ev_fSl, ev_fPart, ev_fRepL, ev_fChain, ev_run, ev_fRng1, ev_fRng2, ev_fRng3, ev_fRgL, ev_fRgT, ev_fRg1, ev_fRg2, ev_fSortSet, ev_tFrz, ev_frz_cons, ev_frz_nil, ev_var0, ev_varS, ev_C, ev_nil, ev_yes, ev_noPart, ev_next, ev_break, ev_cont, ev_no, ev_name, ev_tup2, frzC, wipeE, startE, List.length_cons, List.length_nil, List.map_cons, List.map_nil, List.replicate_succ, List.replicate_zero, List.cons_append, List.nil_append, List.getElem?_cons_zero, List.getElem?_cons_succ, List.set_cons_zero, List.set_cons_succ, Option.map_some, Option.map_none, Nat.reduceAdd, Nat.reduceSub, Nat.reduceLeDiff, if_true, ite_true, ite_false, Nat.zero_add, Nat.add_zero, Nat.sub_self, Nat.sub_zero, frzC, e, e2]
theorem nbs_nbc {n : Int} {c : Wrd} : nbs n c = nbc n c := rfl
theorem nbc_len {n : Int} {c : Wrd} : (nbc n c).length = n.toNat := by unfold nbc; rw [List.length_map, sides_len]
theorem grw_len {n : Int} {A : List Wrd} : (grw n A).length ≤ A.length + A.length * n.toNat := by
  unfold grw
  rw [List.length_append]
  have := flat_len (f := nbc n) (k := n.toNat) (l := A) fun c _ => by rw [nbc_len]; exact Nat.le_refl _
  omega
theorem Twn.grw {n : Int} {A : List Wrd} {m : Nat} (h3 : 3 ≤ n) (h : Twn n A m) : Twn n (Mt.grw n A) (m + 1) := by
  refine ⟨fun c hc => AllN.grw h3 h.nf c hc, fun c hc => ?_⟩
  rcases mem_grw.mp hc with q | ⟨d, hd, q⟩
  · have := h.len c q; omega
  · obtain ⟨s, hs, rfl⟩ := mem_nbc.mp q
    have := crs_len_le (n := n) (c := d) (s := s)
    have := h.len d hd
    omega
theorem Twn.nxtT {n : Int} {r0 r1 : List Int} {A : List Wrd} {m : Nat} (h3 : 3 ≤ n) (h : Twn n A m) : Twn n (Mt.nxtT n r0 r1 A) (m + 1) :=
  ⟨fun c hc => (h.grw h3).nf c (mem_nxtT.mp hc).1, fun c hc => (h.grw h3).len c (mem_nxtT.mp hc).1⟩
theorem m_grown {n : Int} {A : List Wrd} {m : Nat} (h3 : 3 ≤ n) (hn : n ≤ 1000) (h : Twn n A m) (hl : m ≤ 4000) (few : A.length + A.length * n.toNat ≤ 306) :
    F_grown [.int n, tw A] = some (tw (sortRows (grw n A))) := by
  have kn : okI n = true := okI_of (by omega) (by omega)
  have e : C_grown_0 [some (.dat (.int n)), some (.dat (tw A)), none, none] = some (A.flatMap fun c => (nbc n c).map kT) := by
    refine fLc2_flat (l := A) (i := kT) ?_ (fun c hc => ?_) ?_
    · have ti : items (tw A) = some (A.map kT) := rfl
      generalize tw A = Z at ti
      simp only [ev_fBin, ev_fUn, ev_fCons, ev_fApp, ev_fTup, ev_fLst, ev_fOfL, ev_fTest, ev_fAnd, ev_fOr, ev_fNot, ev_fAndV, ev_fOrV, ev_fNotV, ev_fIf, ev_fFrz, ev_fIter, ev_gSeq, ev_gRet, ev_gIf, ev_gSet, ev_gOwn, ev_gAsg, ev_gPar, ev_gParO, ev_gAug, ev_gApp, ev_gExt, ev_gPut, ev_gFor, ev_fSl, ev_fPart, ev_fRepL, ev_fChain, ev_run, ev_fRng1, ev_fRng2, ev_fRng3, ev_fRgL, ev_fRgT, ev_fRg1, ev_fRg2, ev_fSortSet, ev_tFrz, ev_frz_cons, ev_frz_nil, ev_var0, ev_varS, ev_C, ev_nil, ev_yes, ev_noPart, ev_next, ev_break, ev_cont, ev_no, ev_name, ev_tup2, frzC, wipeE, startE, List.length_cons, List.length_nil, List.map_cons, List.map_nil, List.replicate_succ, List.replicate_zero, List.cons_append, List.nil_append, List.getElem?_cons_zero, List.getElem?_cons_succ, List.set_cons_zero, List.set_cons_succ, Option.map_some, Option.map_none, Nat.reduceAdd, Nat.reduceSub, Nat.reduceLeDiff, if_true, ite_true, ite_false, Nat.zero_add, Nat.add_zero, Nat.sub_self, Nat.sub_zero, ti]
    · have r : fmapO (lcTurn [3] (sName 3) fYes (fApp F_crossed (fCons (fVar 0) (fCons (fVar 2) (fCons (fVar 3) fNil)))) [some (.dat (.int n)), some (.dat (tw A)), some (.dat (kT c)), none]) ((sides n).map PyData.int) = some ((nbc n c).map kT) := by
        rw [fmapO_mapX (o := fun s => kT (crs n c s)) fun s hs => ?_]
        · unfold nbc; rw [kT_map]
        · have hm := m_crossed h3 (h.nf c hc).ir (mem_sides.mp hs) (by have := h.len c hc; omega)
          generalize tw A = Z
          simp only [ev_lcTurn, ev_fBin, ev_fUn, ev_fCons, ev_fApp, ev_fTup, ev_fLst, ev_fOfL, ev_fTest, ev_fAnd, ev_fOr, ev_fNot, ev_fAndV, ev_fOrV, ev_fNotV, ev_fIf, ev_fFrz, ev_fIter, ev_gSeq, ev_gRet, ev_gIf, ev_gSet, ev_gOwn, ev_gAsg, ev_gPar, ev_gParO, ev_gAug, ev_gApp, ev_gExt, ev_gPut, ev_gFor, ev_fSl, ev_fPart, ev_fRepL, ev_fChain, ev_run, ev_fRng1, ev_fRng2, ev_fRng3, ev_fRgL, ev_fRgT, ev_fRg1, ev_fRg2, ev_fSortSet, ev_tFrz, ev_frz_cons, ev_frz_nil, ev_var0, ev_varS, ev_C, ev_nil, ev_yes, ev_noPart, ev_next, ev_break, ev_cont, ev_no, ev_name, ev_tup2, frzC, wipeE, startE, List.length_cons, List.length_nil, List.map_cons, List.map_nil, List.replicate_succ, List.replicate_zero, List.cons_append, List.nil_append, List.getElem?_cons_zero, List.getElem?_cons_succ, List.set_cons_zero, List.set_cons_succ, Option.map_some, Option.map_none, Nat.reduceAdd, Nat.reduceSub, Nat.reduceLeDiff, if_true, ite_true, ite_false, Nat.zero_add, Nat.add_zero, Nat.sub_self, Nat.sub_zero, hm]
      generalize tw A = Z at r
      simp only [ev_lc2Turn, ev_fBin, ev_fUn, ev_fCons, ev_fApp, ev_fTup, ev_fLst, ev_fOfL, ev_fTest, ev_fAnd, ev_fOr, ev_fNot, ev_fAndV, ev_fOrV, ev_fNotV, ev_fIf, ev_fFrz, ev_fIter, ev_gSeq, ev_gRet, ev_gIf, ev_gSet, ev_gOwn, ev_gAsg, ev_gPar, ev_gParO, ev_gAug, ev_gApp, ev_gExt, ev_gPut, ev_gFor, ev_fSl, ev_fPart, ev_fRepL, ev_fChain, ev_run, ev_fRng1, ev_fRng2, ev_fRng3, ev_fRgL, ev_fRgT, ev_fRg1, ev_fRg2, ev_fSortSet, ev_tFrz, ev_frz_cons, ev_frz_nil, ev_var0, ev_varS, ev_C, ev_nil, ev_yes, ev_noPart, ev_next, ev_break, ev_cont, ev_no, ev_name, ev_tup2, frzC, wipeE, startE, List.length_cons, List.length_nil, List.map_cons, List.map_nil, List.replicate_succ, List.replicate_zero, List.cons_append, List.nil_append, List.getElem?_cons_zero, List.getElem?_cons_succ, List.set_cons_zero, List.set_cons_succ, Option.map_some, Option.map_none, Nat.reduceAdd, Nat.reduceSub, Nat.reduceLeDiff, if_true, ite_true, ite_false, Nat.zero_add, Nat.add_zero, Nat.sub_self, Nat.sub_zero, kn, rng_sidesX, r]
    · have := flat_len (f := fun c => (nbc n c).map kT) (k := n.toNat) (l := A) fun c _ => by rw [List.length_map, nbc_len]; exact Nat.le_refl _
      omega
  have em : (A.flatMap fun c => (nbc n c).map kT) = (A.flatMap (nbc n)).map kT := by rw [List.map_flatMap]
  rw [em] at e
  have el : dList [tw A] = some (.list (A.map kT)) := rfl
  have hle := grw_len (n := n) (A := A)
  have ea : dAdd (.list (A.map kT)) (.list ((A.flatMap (nbc n)).map kT)) = some (.list ((grw n A).map kT)) := by
    rw [dAdd_l (by rw [List.length_map, List.length_map]; unfold grw at hle; rw [List.length_append] at hle; omega)]
    unfold grw
    rw [List.map_append]
  have ef := m_figure (A := grw n A) (by have := dedup_le (grw n A); omega)
  generalize (grw n A).map kT = Z1 at ea ef
  generalize (A.flatMap (nbc n)).map kT = Z2 at ea e
  generalize A.map kT = Z3 at ea el
  generalize tw A = Z4 at e el
  simp only [F_grown, G_grown, ev_fBin, ev_fUn, ev_fCons, ev_fApp, ev_fTup, ev_fLst, ev_fOfL, ev_fTest, ev_fAnd, ev_fOr, ev_fNot, ev_fAndV, ev_fOrV, ev_fNotV, ev_fIf, ev_fFrz, ev_fIter, ev_gSeq, ev_gRet, ev_gIf, ev_gSet, ev_gOwn, ev_gAsg, ev_gPar, ev_gParO, ev_gAug, ev_gApp, ev_gExt, ev_gPut, ev_gFor, ev_fSl, ev_fPart, ev_fRepL, ev_fChain, ev_run, ev_fRng1, ev_fRng2, ev_fRng3, ev_fRgL, ev_fRgT, ev_fRg1, ev_fRg2, ev_fSortSet, ev_tFrz, ev_frz_cons, ev_frz_nil, ev_var0, ev_varS, ev_C, ev_nil, ev_yes, ev_noPart, ev_next, ev_break, ev_cont, ev_no, ev_name, ev_tup2, frzC, wipeE, startE, List.length_cons, List.length_nil, List.map_cons, List.map_nil, List.replicate_succ, List.replicate_zero, List.cons_append, List.nil_append, List.getElem?_cons_zero, List.getElem?_cons_succ, List.set_cons_zero, List.set_cons_succ, Option.map_some, Option.map_none, Nat.reduceAdd, Nat.reduceSub, Nat.reduceLeDiff, if_true, ite_true, ite_false, Nat.zero_add, Nat.add_zero, Nat.sub_self, Nat.sub_zero, frzC, e, el, ea, ef]
theorem m_living {n : Int} {A : List Wrd} {c : Wrd} (h3 : 3 ≤ n) (hn : n ≤ 1000) (hc : Mt.NF n c) (hl : c.length ≤ 4000) : F_living [.int n, tw A, kT c] = some (.int (liv n A c : Nat)) := by
  have hm := m_neighbours h3 hn hc.ir hl
  have e : C_living_0 [some (.dat (.int n)), some (.dat (tw A)), some (.dat (kT c)), none] = some (((nbc n c).filter fun d => decide (d ∈ A)).map kT) := by
    refine fLc_filter (l := nbc n c) (i := kT) ?_ (by rw [nbc_len]; omega) fun d hd => ?_
    · have ti : items (.list ((nbs n c).map kT)) = some ((nbc n c).map kT) := rfl
      generalize PyData.list ((nbs n c).map kT) = Z at hm ti
      generalize tw A = Z1
      simp only [ev_fBin, ev_fUn, ev_fCons, ev_fApp, ev_fTup, ev_fLst, ev_fOfL, ev_fTest, ev_fAnd, ev_fOr, ev_fNot, ev_fAndV, ev_fOrV, ev_fNotV, ev_fIf, ev_fFrz, ev_fIter, ev_gSeq, ev_gRet, ev_gIf, ev_gSet, ev_gOwn, ev_gAsg, ev_gPar, ev_gParO, ev_gAug, ev_gApp, ev_gExt, ev_gPut, ev_gFor, ev_fSl, ev_fPart, ev_fRepL, ev_fChain, ev_run, ev_fRng1, ev_fRng2, ev_fRng3, ev_fRgL, ev_fRgT, ev_fRg1, ev_fRg2, ev_fSortSet, ev_tFrz, ev_frz_cons, ev_frz_nil, ev_var0, ev_varS, ev_C, ev_nil, ev_yes, ev_noPart, ev_next, ev_break, ev_cont, ev_no, ev_name, ev_tup2, frzC, wipeE, startE, List.length_cons, List.length_nil, List.map_cons, List.map_nil, List.replicate_succ, List.replicate_zero, List.cons_append, List.nil_append, List.getElem?_cons_zero, List.getElem?_cons_succ, List.set_cons_zero, List.set_cons_succ, Option.map_some, Option.map_none, Nat.reduceAdd, Nat.reduceSub, Nat.reduceLeDiff, if_true, ite_true, ite_false, Nat.zero_add, Nat.add_zero, Nat.sub_self, Nat.sub_zero, hm, ti]
    · have q : dIn (kT d) (tw A) = some (.bool (decide (d ∈ A))) := dIn_kTt
      generalize tw A = Z at q
      by_cases r : d ∈ A
      · have rd := decide_eq_true r
        rw [rd] at q
        simp only [ev_lcTurn, ev_fBin, ev_fUn, ev_fCons, ev_fApp, ev_fTup, ev_fLst, ev_fOfL, ev_fTest, ev_fAnd, ev_fOr, ev_fNot, ev_fAndV, ev_fOrV, ev_fNotV, ev_fIf, ev_fFrz, ev_fIter, ev_gSeq, ev_gRet, ev_gIf, ev_gSet, ev_gOwn, ev_gAsg, ev_gPar, ev_gParO, ev_gAug, ev_gApp, ev_gExt, ev_gPut, ev_gFor, ev_fSl, ev_fPart, ev_fRepL, ev_fChain, ev_run, ev_fRng1, ev_fRng2, ev_fRng3, ev_fRgL, ev_fRgT, ev_fRg1, ev_fRg2, ev_fSortSet, ev_tFrz, ev_frz_cons, ev_frz_nil, ev_var0, ev_varS, ev_C, ev_nil, ev_yes, ev_noPart, ev_next, ev_break, ev_cont, ev_no, ev_name, ev_tup2, frzC, wipeE, startE, List.length_cons, List.length_nil, List.map_cons, List.map_nil, List.replicate_succ, List.replicate_zero, List.cons_append, List.nil_append, List.getElem?_cons_zero, List.getElem?_cons_succ, List.set_cons_zero, List.set_cons_succ, Option.map_some, Option.map_none, Nat.reduceAdd, Nat.reduceSub, Nat.reduceLeDiff, if_true, ite_true, ite_false, Nat.zero_add, Nat.add_zero, Nat.sub_self, Nat.sub_zero, q, rd]
        try rfl
      · have rd := decide_eq_false r
        rw [rd] at q
        simp only [ev_lcTurn, ev_fBin, ev_fUn, ev_fCons, ev_fApp, ev_fTup, ev_fLst, ev_fOfL, ev_fTest, ev_fAnd, ev_fOr, ev_fNot, ev_fAndV, ev_fOrV, ev_fNotV, ev_fIf, ev_fFrz, ev_fIter, ev_gSeq, ev_gRet, ev_gIf, ev_gSet, ev_gOwn, ev_gAsg, ev_gPar, ev_gParO, ev_gAug, ev_gApp, ev_gExt, ev_gPut, ev_gFor, ev_fSl, ev_fPart, ev_fRepL, ev_fChain, ev_run, ev_fRng1, ev_fRng2, ev_fRng3, ev_fRgL, ev_fRgT, ev_fRg1, ev_fRg2, ev_fSortSet, ev_tFrz, ev_frz_cons, ev_frz_nil, ev_var0, ev_varS, ev_C, ev_nil, ev_yes, ev_noPart, ev_next, ev_break, ev_cont, ev_no, ev_name, ev_tup2, frzC, wipeE, startE, List.length_cons, List.length_nil, List.map_cons, List.map_nil, List.replicate_succ, List.replicate_zero, List.cons_append, List.nil_append, List.getElem?_cons_zero, List.getElem?_cons_succ, List.set_cons_zero, List.set_cons_succ, Option.map_some, Option.map_none, Nat.reduceAdd, Nat.reduceSub, Nat.reduceLeDiff, if_true, ite_true, ite_false, Nat.zero_add, Nat.add_zero, Nat.sub_self, Nat.sub_zero, q, rd]
        try rfl
  have el : dLen [.list (((nbc n c).filter fun d => decide (d ∈ A)).map kT)] = some (.int (liv n A c : Nat)) := by
    rw [dLen_l, List.length_map]
    rfl
  generalize ((nbc n c).filter fun d => decide (d ∈ A)).map kT = Z at e el
  generalize tw A = Z1 at e
  simp only [F_living, G_living, ev_fBin, ev_fUn, ev_fCons, ev_fApp, ev_fTup, ev_fLst, ev_fOfL, ev_fTest, ev_fAnd, ev_fOr, ev_fNot, ev_fAndV, ev_fOrV, ev_fNotV, ev_fIf, ev_fFrz, ev_fIter, ev_gSeq, ev_gRet, ev_gIf, ev_gSet, ev_gOwn, ev_gAsg, ev_gPar, ev_gParO, ev_gAug, ev_gApp, ev_gExt, ev_gPut, ev_gFor, ev_fSl, ev_fPart, ev_fRepL, ev_fChain, ev_run, ev_fRng1, ev_fRng2, ev_fRng3, ev_fRgL, ev_fRgT, ev_fRg1, ev_fRg2, ev_fSortSet, ev_tFrz, ev_frz_cons, ev_frz_nil, ev_var0, ev_varS, ev_C, ev_nil, ev_yes, ev_noPart, ev_next, ev_break, ev_cont, ev_no, ev_name, ev_tup2, frzC, wipeE, startE, List.length_cons, List.length_nil, List.map_cons, List.map_nil, List.replicate_succ, List.replicate_zero, List.cons_append, List.nil_append, List.getElem?_cons_zero, List.getElem?_cons_succ, List.set_cons_zero, List.set_cons_succ, Option.map_some, Option.map_none, Nat.reduceAdd, Nat.reduceSub, Nat.reduceLeDiff, if_true, ite_true, ite_false, Nat.zero_add, Nat.add_zero, Nat.sub_self, Nat.sub_zero, frzC, e, el]
theorem b_beat {n : Int} {r0 r1 : List Int} {A : List Wrd} {c : Wrd} {L : List Wrd} {c4 : Option Cell} (h3 : 3 ≤ n) (hn : n ≤ 1000) (hc : Mt.NF n c) (hl : c.length ≤ 4000) (hL : L.length ≤ 5000) :
    B_beat_0 [some (.dat (.int n)), some (.dat (.tuple [kT r0, kT r1])), some (.dat (tw A)), some (.own (L.map kT)), some (.dat (kT c))]
    = .nx [some (.dat (.int n)), some (.dat (.tuple [kT r0, kT r1])), some (.dat (tw A)), some (.own ((if ((liv n A c : Nat) : Int) ∈ (if c ∈ A then r1 else r0) then L ++ [c] else L).map kT)), some (.dat (kT c))] := by
  have e1 := m_living (A := A) h3 hn hc hl
  have e2 : dIn (kT c) (tw A) = some (.bool (decide (c ∈ A))) := dIn_kTt
  have i1 : dIx (.tuple [kT r0, kT r1]) (.int 1) = some (kT r1) := rfl
  have i0 : dIx (.tuple [kT r0, kT r1]) (.int 0) = some (kT r0) := rfl
  have j1 := dIn_intJ (s := ((liv n A c : Nat) : Int)) (l := r1)
  have j0 := dIn_intJ (s := ((liv n A c : Nat) : Int)) (l := r0)
  have lk : lf (kT c) = true := lf_kT
  have lL : (L.map kT).length < 100000 := by rw [List.length_map]; omega
  have ap : (L ++ [c]).map kT = L.map kT ++ [kT c] := by rw [List.map_append]; rfl
  generalize PyData.tuple [kT r0, kT r1] = R at i1 i0
  generalize tw A = Z at e1 e2
  by_cases q : c ∈ A
  · rw [decide_eq_true q] at e2
    rw [if_pos q]
    by_cases r : ((liv n A c : Nat) : Int) ∈ r1
    · rw [decide_eq_true r] at j1
      rw [if_pos r, ap]
      simp only [B_beat_0, ev_fBin, ev_fUn, ev_fCons, ev_fApp, ev_fTup, ev_fLst, ev_fOfL, ev_fTest, ev_fAnd, ev_fOr, ev_fNot, ev_fAndV, ev_fOrV, ev_fNotV, ev_fIf, ev_fFrz, ev_fIter, ev_gSeq, ev_gRet, ev_gIf, ev_gSet, ev_gOwn, ev_gAsg, ev_gPar, ev_gParO, ev_gAug, ev_gApp, ev_gExt, ev_gPut, ev_gFor, ev_fSl, ev_fPart, ev_fRepL, ev_fChain, ev_run, ev_fRng1, ev_fRng2, ev_fRng3, ev_fRgL, ev_fRgT, ev_fRg1, ev_fRg2, ev_fSortSet, ev_tFrz, ev_frz_cons, ev_frz_nil, ev_var0, ev_varS, ev_C, ev_nil, ev_yes, ev_noPart, ev_next, ev_break, ev_cont, ev_no, ev_name, ev_tup2, frzC, wipeE, startE, List.length_cons, List.length_nil, List.map_cons, List.map_nil, List.replicate_succ, List.replicate_zero, List.cons_append, List.nil_append, List.getElem?_cons_zero, List.getElem?_cons_succ, List.set_cons_zero, List.set_cons_succ, Option.map_some, Option.map_none, Nat.reduceAdd, Nat.reduceSub, Nat.reduceLeDiff, if_true, ite_true, ite_false, Nat.zero_add, Nat.add_zero, Nat.sub_self, Nat.sub_zero, e1, e2, i1, j1, lk, lL]
    · rw [decide_eq_false r] at j1
      rw [if_neg r]
      simp only [B_beat_0, ev_fBin, ev_fUn, ev_fCons, ev_fApp, ev_fTup, ev_fLst, ev_fOfL, ev_fTest, ev_fAnd, ev_fOr, ev_fNot, ev_fAndV, ev_fOrV, ev_fNotV, ev_fIf, ev_fFrz, ev_fIter, ev_gSeq, ev_gRet, ev_gIf, ev_gSet, ev_gOwn, ev_gAsg, ev_gPar, ev_gParO, ev_gAug, ev_gApp, ev_gExt, ev_gPut, ev_gFor, ev_fSl, ev_fPart, ev_fRepL, ev_fChain, ev_run, ev_fRng1, ev_fRng2, ev_fRng3, ev_fRgL, ev_fRgT, ev_fRg1, ev_fRg2, ev_fSortSet, ev_tFrz, ev_frz_cons, ev_frz_nil, ev_var0, ev_varS, ev_C, ev_nil, ev_yes, ev_noPart, ev_next, ev_break, ev_cont, ev_no, ev_name, ev_tup2, frzC, wipeE, startE, List.length_cons, List.length_nil, List.map_cons, List.map_nil, List.replicate_succ, List.replicate_zero, List.cons_append, List.nil_append, List.getElem?_cons_zero, List.getElem?_cons_succ, List.set_cons_zero, List.set_cons_succ, Option.map_some, Option.map_none, Nat.reduceAdd, Nat.reduceSub, Nat.reduceLeDiff, if_true, ite_true, ite_false, Nat.zero_add, Nat.add_zero, Nat.sub_self, Nat.sub_zero, e1, e2, i1, j1]
      try rfl
  · rw [decide_eq_false q] at e2
    rw [if_neg q]
    by_cases r : ((liv n A c : Nat) : Int) ∈ r0
    · rw [decide_eq_true r] at j0
      rw [if_pos r, ap]
      simp only [B_beat_0, ev_fBin, ev_fUn, ev_fCons, ev_fApp, ev_fTup, ev_fLst, ev_fOfL, ev_fTest, ev_fAnd, ev_fOr, ev_fNot, ev_fAndV, ev_fOrV, ev_fNotV, ev_fIf, ev_fFrz, ev_fIter, ev_gSeq, ev_gRet, ev_gIf, ev_gSet, ev_gOwn, ev_gAsg, ev_gPar, ev_gParO, ev_gAug, ev_gApp, ev_gExt, ev_gPut, ev_gFor, ev_fSl, ev_fPart, ev_fRepL, ev_fChain, ev_run, ev_fRng1, ev_fRng2, ev_fRng3, ev_fRgL, ev_fRgT, ev_fRg1, ev_fRg2, ev_fSortSet, ev_tFrz, ev_frz_cons, ev_frz_nil, ev_var0, ev_varS, ev_C, ev_nil, ev_yes, ev_noPart, ev_next, ev_break, ev_cont, ev_no, ev_name, ev_tup2, frzC, wipeE, startE, List.length_cons, List.length_nil, List.map_cons, List.map_nil, List.replicate_succ, List.replicate_zero, List.cons_append, List.nil_append, List.getElem?_cons_zero, List.getElem?_cons_succ, List.set_cons_zero, List.set_cons_succ, Option.map_some, Option.map_none, Nat.reduceAdd, Nat.reduceSub, Nat.reduceLeDiff, if_true, ite_true, ite_false, Nat.zero_add, Nat.add_zero, Nat.sub_self, Nat.sub_zero, e1, e2, i0, j0, lk, lL]
    · rw [decide_eq_false r] at j0
      rw [if_neg r]
      simp only [B_beat_0, ev_fBin, ev_fUn, ev_fCons, ev_fApp, ev_fTup, ev_fLst, ev_fOfL, ev_fTest, ev_fAnd, ev_fOr, ev_fNot, ev_fAndV, ev_fOrV, ev_fNotV, ev_fIf, ev_fFrz, ev_fIter, ev_gSeq, ev_gRet, ev_gIf, ev_gSet, ev_gOwn, ev_gAsg, ev_gPar, ev_gParO, ev_gAug, ev_gApp, ev_gExt, ev_gPut, ev_gFor, ev_fSl, ev_fPart, ev_fRepL, ev_fChain, ev_run, ev_fRng1, ev_fRng2, ev_fRng3, ev_fRgL, ev_fRgT, ev_fRg1, ev_fRg2, ev_fSortSet, ev_tFrz, ev_frz_cons, ev_frz_nil, ev_var0, ev_varS, ev_C, ev_nil, ev_yes, ev_noPart, ev_next, ev_break, ev_cont, ev_no, ev_name, ev_tup2, frzC, wipeE, startE, List.length_cons, List.length_nil, List.map_cons, List.map_nil, List.replicate_succ, List.replicate_zero, List.cons_append, List.nil_append, List.getElem?_cons_zero, List.getElem?_cons_succ, List.set_cons_zero, List.set_cons_succ, Option.map_some, Option.map_none, Nat.reduceAdd, Nat.reduceSub, Nat.reduceLeDiff, if_true, ite_true, ite_false, Nat.zero_add, Nat.add_zero, Nat.sub_self, Nat.sub_zero, e1, e2, i0, j0]
      try rfl
theorem m_beat {n : Int} {r0 r1 : List Int} {A : List Wrd} {m : Nat} (h3 : 3 ≤ n) (hn : n ≤ 1000) (h : Twn n A m) (hl : m ≤ 3000) (few : A.length + A.length * n.toNat ≤ 306) :
    F_beat [.int n, .tuple [kT r0, kT r1], tw A] = some (tw (sortRows (Mt.nxtT n r0 r1 A))) := by
  have eg := m_grown h3 hn h (by omega) few
  have hT := (h.grw h3).sort
  have lenS : (sortRows (grw n A)).length ≤ 306 := by
    rw [sortRows_len]
    have := dedup_le (grw n A)
    have := grw_len (n := n) (A := A)
    omega
  let p : Wrd → Bool := fun c => decide (((liv n A c : Nat) : Int) ∈ if c ∈ A then r1 else r0)
  obtain ⟨ρ', e, hI⟩ := loop_inv (g := sName 4) (B := B_beat_0) (i := kT) (l := sortRows (grw n A))
    (Inv := fun pre ρ => pre.length ≤ 306 → ∃ c4, ρ = [some (.dat (.int n)), some (.dat (.tuple [kT r0, kT r1])), some (.dat (tw A)), some (.own ((pre.filter p).map kT)), c4])
    (fun pre c post ρ hp hi => by
      have hlen : pre.length + 1 ≤ 306 := by
        have := congrArg List.length hp
        rw [List.length_append, List.length_cons] at this
        omega
      obtain ⟨c4, rfl⟩ := hi (by omega)
      have hm : c ∈ sortRows (grw n A) := by rw [hp]; exact List.mem_append_right _ (.head _)
      have hc4 := hT.len c hm
      have fl := List.length_filter_le p pre
      have eb := b_beat (r0 := r0) (r1 := r1) (A := A) (L := pre.filter p) (c4 := c4) h3 hn (hT.nf c hm) (by omega) (by omega)
      refine ⟨_, _, rfl, .inl ?_, fun _ => ⟨some (.dat (kT c)), rfl⟩⟩
      have ef : (pre ++ [c]).filter p = if ((liv n A c : Nat) : Int) ∈ (if c ∈ A then r1 else r0) then pre.filter p ++ [c] else pre.filter p := by
        rw [List.filter_append]
        by_cases q : ((liv n A c : Nat) : Int) ∈ (if c ∈ A then r1 else r0)
        · have pc : p c = true := decide_eq_true q
          rw [if_pos q, List.filter_cons_of_pos pc]
          rfl
        · have pc : ¬ p c = true := by show ¬ decide _ = true; rw [decide_eq_false q]; decide
          rw [if_neg q, List.filter_cons_of_neg pc]
          exact List.append_nil _
      rw [ef]
      exact eb)
    (ρ := [some (.dat (.int n)), some (.dat (.tuple [kT r0, kT r1])), some (.dat (tw A)), some (.own []), none]) (fun _ => ⟨none, rfl⟩)
  obtain ⟨c4, hρ⟩ := hI lenS
  subst hρ
  have same : SameS ((sortRows (grw n A)).filter p) (Mt.nxtT n r0 r1 A) := fun c => by
    rw [List.mem_filter, mem_sortRows c, mem_nxtT]
    exact and_congr_right fun _ => decide_eq_true_iff
  have ef := m_figure (A := (sortRows (grw n A)).filter p) (by have := dedup_le ((sortRows (grw n A)).filter p); have := List.length_filter_le p (sortRows (grw n A)); omega)
  rw [sortRows_same same] at ef
  have ti : items (tw (sortRows (grw n A))) = some ((sortRows (grw n A)).map kT) := rfl
  generalize PyData.tuple [kT r0, kT r1] = R at e
  generalize ((sortRows (grw n A)).filter p).map kT = Z at e ef
  generalize (sortRows (grw n A)).map kT = Z1 at e ti
  generalize tw (sortRows (grw n A)) = Z2 at eg ti
  generalize tw A = Z3 at e eg
  simp only [F_beat, G_beat, ev_fBin, ev_fUn, ev_fCons, ev_fApp, ev_fTup, ev_fLst, ev_fOfL, ev_fTest, ev_fAnd, ev_fOr, ev_fNot, ev_fAndV, ev_fOrV, ev_fNotV, ev_fIf, ev_fFrz, ev_fIter, ev_gSeq, ev_gRet, ev_gIf, ev_gSet, ev_gOwn, ev_gAsg, ev_gPar, ev_gParO, ev_gAug, ev_gApp, ev_gExt, ev_gPut, ev_gFor, ev_fSl, ev_fPart, ev_fRepL, ev_fChain, ev_run, ev_fRng1, ev_fRng2, ev_fRng3, ev_fRgL, ev_fRgT, ev_fRg1, ev_fRg2, ev_fSortSet, ev_tFrz, ev_frz_cons, ev_frz_nil, ev_var0, ev_varS, ev_C, ev_nil, ev_yes, ev_noPart, ev_next, ev_break, ev_cont, ev_no, ev_name, ev_tup2, frzC, wipeE, startE, List.length_cons, List.length_nil, List.map_cons, List.map_nil, List.replicate_succ, List.replicate_zero, List.cons_append, List.nil_append, List.getElem?_cons_zero, List.getElem?_cons_succ, List.set_cons_zero, List.set_cons_succ, Option.map_some, Option.map_none, Nat.reduceAdd, Nat.reduceSub, Nat.reduceLeDiff, if_true, ite_true, ite_false, Nat.zero_add, Nat.add_zero, Nat.sub_self, Nat.sub_zero, frzC, eg, ti, e, ef]
/-- towns after beats, as the program keeps them -/
def btS (n : Int) (r0 r1 : List Int) (A : List Wrd) : Nat → List Wrd
  | 0 => A
  | k + 1 => sortRows (Mt.nxtT n r0 r1 (btS n r0 r1 A k))
theorem btS_same {n : Int} {r0 r1 : List Int} {A : List Wrd} : ∀ k, SameS (btS n r0 r1 A k) (btI n r0 r1 A k)
  | 0 => .refl _
  | k + 1 => (mem_sortRows (A := Mt.nxtT n r0 r1 (btS n r0 r1 A k))).trans (nxtT_same (btS_same k))
theorem btS_twn {n : Int} {r0 r1 : List Int} {A : List Wrd} {m : Nat} (h3 : 3 ≤ n) (h : Twn n A m) : ∀ k, Twn n (btS n r0 r1 A k) (m + k)
  | 0 => h
  | k + 1 => ((btS_twn h3 h k).nxtT h3).sort
theorem btS_sort {n : Int} {r0 r1 : List Int} {A : List Wrd} (k : Nat) : btS n r0 r1 A (k + 1) = sortRows (btI n r0 r1 A (k + 1)) := sortRows_same (nxtT_same (btS_same k))
theorem m_beats {n : Int} {r0 r1 : List Int} {A : List Wrd} {m k : Nat} (h3 : 3 ≤ n) (hn : n ≤ 1000) (h : Twn n A m) (hl : m + k ≤ 3000) (few : ∀ j, j < k → (btS n r0 r1 A j).length + (btS n r0 r1 A j).length * n.toNat ≤ 306) :
    F_beats [.int n, .tuple [kT r0, kT r1], tw A, .int (k : Int)] = some (tw (btS n r0 r1 A k)) := by
  obtain ⟨ρ', e, c4, hρ⟩ := loop_inv (g := sName 4) (B := B_beats_0) (i := fun j : Nat => PyData.int ((0 : Int) + (j : Int))) (l := List.range k)
    (Inv := fun pre ρ => ∃ c4, ρ = [some (.dat (.int n)), some (.dat (.tuple [kT r0, kT r1])), some (.dat (tw (btS n r0 r1 A pre.length))), some (.dat (.int (k : Int))), c4])
    (fun pre j post ρ hp ⟨c4, hρ⟩ => by
      subst hρ
      have hk : pre.length < k := by
        have := congrArg List.length hp
        rw [List.length_append, List.length_cons, List.length_range] at this
        omega
      have eb := m_beat (r0 := r0) (r1 := r1) h3 hn (btS_twn (r0 := r0) (r1 := r1) h3 h pre.length) (by omega) (few _ hk)
      have el : btS n r0 r1 A (pre ++ [j]).length = sortRows (Mt.nxtT n r0 r1 (btS n r0 r1 A pre.length)) := by
        rw [List.length_append, List.length_singleton]
        rfl
      refine ⟨_, _, rfl, .inl ?_, some (.dat (.int ((0 : Int) + (j : Int)))), rfl⟩
      rw [el]
      generalize PyData.tuple [kT r0, kT r1] = R at eb ⊢
      generalize tw (sortRows (Mt.nxtT n r0 r1 (btS n r0 r1 A pre.length))) = Z at eb ⊢
      generalize tw (btS n r0 r1 A pre.length) = Z1 at eb ⊢
      simp only [B_beats_0, ev_fBin, ev_fUn, ev_fCons, ev_fApp, ev_fTup, ev_fLst, ev_fOfL, ev_fTest, ev_fAnd, ev_fOr, ev_fNot, ev_fAndV, ev_fOrV, ev_fNotV, ev_fIf, ev_fFrz, ev_fIter, ev_gSeq, ev_gRet, ev_gIf, ev_gSet, ev_gOwn, ev_gAsg, ev_gPar, ev_gParO, ev_gAug, ev_gApp, ev_gExt, ev_gPut, ev_gFor, ev_fSl, ev_fPart, ev_fRepL, ev_fChain, ev_run, ev_fRng1, ev_fRng2, ev_fRng3, ev_fRgL, ev_fRgT, ev_fRg1, ev_fRg2, ev_fSortSet, ev_tFrz, ev_frz_cons, ev_frz_nil, ev_var0, ev_varS, ev_C, ev_nil, ev_yes, ev_noPart, ev_next, ev_break, ev_cont, ev_no, ev_name, ev_tup2, frzC, wipeE, startE, List.length_cons, List.length_nil, List.map_cons, List.map_nil, List.replicate_succ, List.replicate_zero, List.cons_append, List.nil_append, List.getElem?_cons_zero, List.getElem?_cons_succ, List.set_cons_zero, List.set_cons_succ, Option.map_some, Option.map_none, Nat.reduceAdd, Nat.reduceSub, Nat.reduceLeDiff, if_true, ite_true, ite_false, Nat.zero_add, Nat.add_zero, Nat.sub_self, Nat.sub_zero, eb])
    (ρ := [some (.dat (.int n)), some (.dat (.tuple [kT r0, kT r1])), some (.dat (tw A)), some (.dat (.int (k : Int))), none]) ⟨none, rfl⟩
  rw [List.length_range] at hρ
  subst hρ
  have kn : okI (k : Int) = true := okI_of (by omega) (by omega)
  generalize PyData.tuple [kT r0, kT r1] = R at e ⊢
  generalize tw A = Z at e ⊢
  generalize tw (btS n r0 r1 A k) = Z1 at e ⊢
  simp only [F_beats, G_beats, ev_fBin, ev_fUn, ev_fCons, ev_fApp, ev_fTup, ev_fLst, ev_fOfL, ev_fTest, ev_fAnd, ev_fOr, ev_fNot, ev_fAndV, ev_fOrV, ev_fNotV, ev_fIf, ev_fFrz, ev_fIter, ev_gSeq, ev_gRet, ev_gIf, ev_gSet, ev_gOwn, ev_gAsg, ev_gPar, ev_gParO, ev_gAug, ev_gApp, ev_gExt, ev_gPut, ev_gFor, ev_fSl, ev_fPart, ev_fRepL, ev_fChain, ev_run, ev_fRng1, ev_fRng2, ev_fRng3, ev_fRgL, ev_fRgT, ev_fRg1, ev_fRg2, ev_fSortSet, ev_tFrz, ev_frz_cons, ev_frz_nil, ev_var0, ev_varS, ev_C, ev_nil, ev_yes, ev_noPart, ev_next, ev_break, ev_cont, ev_no, ev_name, ev_tup2, frzC, wipeE, startE, List.length_cons, List.length_nil, List.map_cons, List.map_nil, List.replicate_succ, List.replicate_zero, List.cons_append, List.nil_append, List.getElem?_cons_zero, List.getElem?_cons_succ, List.set_cons_zero, List.set_cons_succ, Option.map_some, Option.map_none, Nat.reduceAdd, Nat.reduceSub, Nat.reduceLeDiff, if_true, ite_true, ite_false, Nat.zero_add, Nat.add_zero, Nat.sub_self, Nat.sub_zero, frzC, kn, Int.toNat_natCast, rngD_map, e]
end Wd

set_option Elab.async false
set_option linter.all false
set_option maxRecDepth 100000
set_option maxHeartbeats 4000000
set_option autoImplicit false
/-! cells of a ring, balls -/
namespace Wd
open PySem PyProof.Rows L2 Mt
theorem flat_leX {α β : Type} {f : α → List β} {k : Nat} : ∀ {l : List α}, (∀ a ∈ l, (f a).length ≤ k) → (l.flatMap f).length ≤ l.length * k
  | [], _ => by simp
  | a :: l, h => by
    rw [List.flatMap_cons, List.length_append, List.length_cons, Nat.add_mul]
    have h1 := h a (.head _)
    have h2 := flat_leX fun b hb => h b (.tail _ hb)
    omega
theorem cst_len {n : Int} (h9 : n ≤ 9) : ∀ k, (cst n k).length ≤ 9 ^ k
  | 0 => Nat.le_refl _
  | k + 1 => by
    have ih := cst_len h9 k
    show (stp n (cst n k)).length ≤ _
    unfold stp
    refine Nat.le_trans (flat_leX (k := 9) fun p _ => ?_) (by rw [Nat.pow_succ]; exact Nat.mul_le_mul_right 9 ih)
    rw [List.length_map]
    refine Nat.le_trans (List.length_filter_le _ _) ?_
    rw [sides_len]
    omega
/-- a state and a cell -/
def pdC (p : Nat × Wrd) : D := .tuple [.int (p.1 : Int), kT p.2]
theorem c_cells1 {n : Int} (M : Mach n) {k : Nat} {c1 c4 c5 c6 c7 : Option Cell} (hk : k ≤ 3) :
    C_cells_at_1 [some (.dat (.int n)), c1, some (.dat (.tuple ((rws n).map kT))), some (.dat (.list ((cst n k).map pdC))), c4, c5, c6, c7] = some ((cst n (k + 1)).map pdC) := by
  have h9 := M.h9
  have h5 := M.h5
  have kn : okI n = true := okI_of (by omega) (by omega)
  have lenk := cst_len h9 (k + 1)
  have p4 : 9 ^ (k + 1) ≤ 9 ^ 4 := Nat.pow_le_pow_right (by decide) (by omega)
  have em : (cst n (k + 1)).map pdC = (cst n k).flatMap fun p => (((sides n).filter fun s => decide (0 ≤ (rwO n p.1).getD s.toNat 0)).map fun s => pdC (((rwO n p.1).getD s.toNat 0).toNat, p.2 ++ [s])) := by
    show (stp n (cst n k)).map pdC = _
    unfold stp
    rw [List.map_flatMap]
    congr 1
    funext p
    rw [List.map_map]
    rfl
  rw [em]
  refine fLc2_flat (l := cst n k) (i := pdC) ?_ (fun p hp => ?_) ?_
  · have ti : items (.list ((cst n k).map pdC)) = some ((cst n k).map pdC) := rfl
    generalize (rws n).map kT = R
    generalize (cst n k).map pdC = Z at ti
    simp only [ev_fBin, ev_fUn, ev_fCons, ev_fApp, ev_fTup, ev_fLst, ev_fOfL, ev_fTest, ev_fAnd, ev_fOr, ev_fNot, ev_fAndV, ev_fOrV, ev_fNotV, ev_fIf, ev_fFrz, ev_fIter, ev_gSeq, ev_gRet, ev_gIf, ev_gSet, ev_gOwn, ev_gAsg, ev_gPar, ev_gParO, ev_gAug, ev_gApp, ev_gExt, ev_gPut, ev_gFor, ev_fSl, ev_fPart, ev_fRepL, ev_fChain, ev_run, ev_fRng1, ev_fRng2, ev_fRng3, ev_fRgL, ev_fRgT, ev_fRg1, ev_fRg2, ev_fSortSet, ev_tFrz, ev_frz_cons, ev_frz_nil, ev_var0, ev_varS, ev_C, ev_nil, ev_yes, ev_noPart, ev_next, ev_break, ev_cont, ev_no, ev_name, ev_tup2, frzC, wipeE, startE, List.length_cons, List.length_nil, List.map_cons, List.map_nil, List.replicate_succ, List.replicate_zero, List.cons_append, List.nil_append, List.getElem?_cons_zero, List.getElem?_cons_succ, List.set_cons_zero, List.set_cons_succ, Option.map_some, Option.map_none, Nat.reduceAdd, Nat.reduceSub, Nat.reduceLeDiff, if_true, ite_true, ite_false, Nat.zero_add, Nat.add_zero, Nat.sub_self, Nat.sub_zero, ti]
  · obtain ⟨i, c⟩ := p
    obtain ⟨m1, m2, m3, m4⟩ := mem_cst.mp hp
    have hi : i < (rws n).length := by rw [M.len, m4]; exact M.goes_lt M.pos m1
    have hx := dIx_rw (n := n) hi
    have hrow := M.row _ (mach_rwO M hi)
    have r : fmapO (lcTurn [7] (sName 7) (fTest (fBin dGe (fBin dIx (fBin dIx (fVar 2) (fVar 6)) (fVar 7)) (fC (.int 0)))) (fTup (fCons (fBin dIx (fBin dIx (fVar 2) (fVar 6)) (fVar 7)) (fCons (fBin dAdd (fVar 5) (fTup (fCons (fVar 7) fNil))) fNil)))
        [some (.dat (.int n)), c1, some (.dat (.tuple ((rws n).map kT))), some (.dat (.list ((cst n k).map pdC))), c4, some (.dat (kT c)), some (.dat (.int (i : Int))), none]) ((sides n).map PyData.int)
        = some (((sides n).filter fun s => decide (0 ≤ (rwO n i).getD s.toNat 0)).map fun s => pdC (((rwO n i).getD s.toNat 0).toNat, c ++ [s])) := by
      refine fmapO_filter fun s hs => ?_
      have hs' := mem_sides.mp hs
      have hk2 := dIx_k (w := rwO n i) (k := s.toNat) (by rw [hrow.1]; omega)
      rw [show ((s.toNat : Nat) : Int) = s by omega] at hk2
      have ge : dGe (.int ((rwO n i).getD s.toNat 0)) (.int 0) = some (.bool (decide (0 ≤ (rwO n i).getD s.toNat 0))) := rfl
      have ad : dAdd (kT c) (.tuple [.int s]) = some (kT (c ++ [s])) := dAdd_k (u := c) (w := [s]) (by rw [m2, List.length_singleton]; omega)
      generalize (rws n).map kT = R at hx
      generalize (cst n k).map pdC = Z
      by_cases q : 0 ≤ (rwO n i).getD s.toNat 0
      · have qt := decide_eq_true q
        rw [qt] at ge
        have pd : pdC (((rwO n i).getD s.toNat 0).toNat, c ++ [s]) = .tuple [.int ((rwO n i).getD s.toNat 0), kT (c ++ [s])] := by
          unfold pdC
          rw [Int.toNat_of_nonneg q]
        simp only [ev_lcTurn, ev_fBin, ev_fUn, ev_fCons, ev_fApp, ev_fTup, ev_fLst, ev_fOfL, ev_fTest, ev_fAnd, ev_fOr, ev_fNot, ev_fAndV, ev_fOrV, ev_fNotV, ev_fIf, ev_fFrz, ev_fIter, ev_gSeq, ev_gRet, ev_gIf, ev_gSet, ev_gOwn, ev_gAsg, ev_gPar, ev_gParO, ev_gAug, ev_gApp, ev_gExt, ev_gPut, ev_gFor, ev_fSl, ev_fPart, ev_fRepL, ev_fChain, ev_run, ev_fRng1, ev_fRng2, ev_fRng3, ev_fRgL, ev_fRgT, ev_fRg1, ev_fRg2, ev_fSortSet, ev_tFrz, ev_frz_cons, ev_frz_nil, ev_var0, ev_varS, ev_C, ev_nil, ev_yes, ev_noPart, ev_next, ev_break, ev_cont, ev_no, ev_name, ev_tup2, frzC, wipeE, startE, List.length_cons, List.length_nil, List.map_cons, List.map_nil, List.replicate_succ, List.replicate_zero, List.cons_append, List.nil_append, List.getElem?_cons_zero, List.getElem?_cons_succ, List.set_cons_zero, List.set_cons_succ, Option.map_some, Option.map_none, Nat.reduceAdd, Nat.reduceSub, Nat.reduceLeDiff, if_true, ite_true, ite_false, Nat.zero_add, Nat.add_zero, Nat.sub_self, Nat.sub_zero, hx, hk2, ge, ad, qt, pd]
        try rfl
      · have qt := decide_eq_false q
        rw [qt] at ge
        simp only [ev_lcTurn, ev_fBin, ev_fUn, ev_fCons, ev_fApp, ev_fTup, ev_fLst, ev_fOfL, ev_fTest, ev_fAnd, ev_fOr, ev_fNot, ev_fAndV, ev_fOrV, ev_fNotV, ev_fIf, ev_fFrz, ev_fIter, ev_gSeq, ev_gRet, ev_gIf, ev_gSet, ev_gOwn, ev_gAsg, ev_gPar, ev_gParO, ev_gAug, ev_gApp, ev_gExt, ev_gPut, ev_gFor, ev_fSl, ev_fPart, ev_fRepL, ev_fChain, ev_run, ev_fRng1, ev_fRng2, ev_fRng3, ev_fRgL, ev_fRgT, ev_fRg1, ev_fRg2, ev_fSortSet, ev_tFrz, ev_frz_cons, ev_frz_nil, ev_var0, ev_varS, ev_C, ev_nil, ev_yes, ev_noPart, ev_next, ev_break, ev_cont, ev_no, ev_name, ev_tup2, frzC, wipeE, startE, List.length_cons, List.length_nil, List.map_cons, List.map_nil, List.replicate_succ, List.replicate_zero, List.cons_append, List.nil_append, List.getElem?_cons_zero, List.getElem?_cons_succ, List.set_cons_zero, List.set_cons_succ, Option.map_some, Option.map_none, Nat.reduceAdd, Nat.reduceSub, Nat.reduceLeDiff, if_true, ite_true, ite_false, Nat.zero_add, Nat.add_zero, Nat.sub_self, Nat.sub_zero, hx, hk2, ge, qt]
        try rfl
    generalize (rws n).map kT = R at r
    generalize (cst n k).map pdC = Z at r
    have tp : pdC (i, c) = .tuple [.int (i : Int), kT c] := rfl
    rw [tp]
    simp only [ev_lc2Turn, ev_fBin, ev_fUn, ev_fCons, ev_fApp, ev_fTup, ev_fLst, ev_fOfL, ev_fTest, ev_fAnd, ev_fOr, ev_fNot, ev_fAndV, ev_fOrV, ev_fNotV, ev_fIf, ev_fFrz, ev_fIter, ev_gSeq, ev_gRet, ev_gIf, ev_gSet, ev_gOwn, ev_gAsg, ev_gPar, ev_gParO, ev_gAug, ev_gApp, ev_gExt, ev_gPut, ev_gFor, ev_fSl, ev_fPart, ev_fRepL, ev_fChain, ev_run, ev_fRng1, ev_fRng2, ev_fRng3, ev_fRgL, ev_fRgT, ev_fRg1, ev_fRg2, ev_fSortSet, ev_tFrz, ev_frz_cons, ev_frz_nil, ev_var0, ev_varS, ev_C, ev_nil, ev_yes, ev_noPart, ev_next, ev_break, ev_cont, ev_no, ev_name, ev_tup2, frzC, wipeE, startE, List.length_cons, List.length_nil, List.map_cons, List.map_nil, List.replicate_succ, List.replicate_zero, List.cons_append, List.nil_append, List.getElem?_cons_zero, List.getElem?_cons_succ, List.set_cons_zero, List.set_cons_succ, Option.map_some, Option.map_none, Nat.reduceAdd, Nat.reduceSub, Nat.reduceLeDiff, if_true, ite_true, ite_false, Nat.zero_add, Nat.add_zero, Nat.sub_self, Nat.sub_zero, kn, rng_sidesX, r]
  · rw [← em, List.length_map]
    have : (9 : Nat) ^ 4 = 6561 := by decide
    omega
theorem m_cells_at {n : Int} (M : Mach n) {k : Nat} (hk : k ≤ 4) : F_cells_at [.int n, .int (k : Int)] = some (.list ((cells n k).map kT)) := by
  obtain ⟨ρ', e, c4, hρ⟩ := loop_inv (g := sName 4) (B := B_cells_at_0) (i := fun j : Nat => PyData.int ((0 : Int) + (j : Int))) (l := List.range k)
    (Inv := fun pre ρ => ∃ c4, ρ = [some (.dat (.int n)), some (.dat (.int (k : Int))), some (.dat (.tuple ((rws n).map kT))), some (.dat (.list ((cst n pre.length).map pdC))), c4, none, none, none])
    (fun pre j post ρ hp ⟨c4, hρ⟩ => by
      subst hρ
      have hk : pre.length < k := by
        have := congrArg List.length hp
        rw [List.length_append, List.length_cons, List.length_range] at this
        omega
      have ec := c_cells1 M (k := pre.length) (c1 := some (.dat (.int (k : Int)))) (c4 := some (.dat (.int ((0 : Int) + (j : Int))))) (c5 := none) (c6 := none) (c7 := none) (by omega)
      have el : (pre ++ [j]).length = pre.length + 1 := by rw [List.length_append, List.length_singleton]
      refine ⟨_, _, rfl, .inl ?_, some (.dat (.int ((0 : Int) + (j : Int)))), rfl⟩
      rw [el]
      generalize (cst n (pre.length + 1)).map pdC = Z at ec ⊢
      generalize (cst n pre.length).map pdC = Z1 at ec ⊢
      generalize (rws n).map kT = R at ec ⊢
      simp only [B_cells_at_0, ev_fBin, ev_fUn, ev_fCons, ev_fApp, ev_fTup, ev_fLst, ev_fOfL, ev_fTest, ev_fAnd, ev_fOr, ev_fNot, ev_fAndV, ev_fOrV, ev_fNotV, ev_fIf, ev_fFrz, ev_fIter, ev_gSeq, ev_gRet, ev_gIf, ev_gSet, ev_gOwn, ev_gAsg, ev_gPar, ev_gParO, ev_gAug, ev_gApp, ev_gExt, ev_gPut, ev_gFor, ev_fSl, ev_fPart, ev_fRepL, ev_fChain, ev_run, ev_fRng1, ev_fRng2, ev_fRng3, ev_fRgL, ev_fRgT, ev_fRg1, ev_fRg2, ev_fSortSet, ev_tFrz, ev_frz_cons, ev_frz_nil, ev_var0, ev_varS, ev_C, ev_nil, ev_yes, ev_noPart, ev_next, ev_break, ev_cont, ev_no, ev_name, ev_tup2, frzC, wipeE, startE, List.length_cons, List.length_nil, List.map_cons, List.map_nil, List.replicate_succ, List.replicate_zero, List.cons_append, List.nil_append, List.getElem?_cons_zero, List.getElem?_cons_succ, List.set_cons_zero, List.set_cons_succ, Option.map_some, Option.map_none, Nat.reduceAdd, Nat.reduceSub, Nat.reduceLeDiff, if_true, ite_true, ite_false, Nat.zero_add, Nat.add_zero, Nat.sub_self, Nat.sub_zero, ec])
    (ρ := [some (.dat (.int n)), some (.dat (.int (k : Int))), some (.dat (.tuple ((rws n).map kT))), some (.dat (.list ((cst n 0).map pdC))), none, none, none, none]) ⟨none, rfl⟩
  rw [List.length_range] at hρ
  subst hρ
  have kn : okI (k : Int) = true := okI_of (by omega) (by omega)
  have em := m_machine M
  have er := mach_rows (n := n)
  have e0 : ∀ c4 : Option Cell, C_cells_at_0 [some (.dat (.int n)), some (.dat (.int (k : Int))), some (.dat (.tuple ((rws n).map kT))), some (.dat (.list ((cst n k).map pdC))), c4, none, none, none] = some ((cells n k).map kT) := fun c4 => by
    have := fLc_map (L := fIter (fVar 3)) (vs := [4, 5]) (g := sTup2 4 5) (T := fYes) (E := fVar 5) (ρ := [some (.dat (.int n)), some (.dat (.int (k : Int))), some (.dat (.tuple ((rws n).map kT))), some (.dat (.list ((cst n k).map pdC))), c4, none, none, none]) (l := cst n k) (i := pdC) (o := fun p => kT p.2) ?_ ?_ fun p hp => ?_
    · rw [show (cst n k).map (fun p => kT p.2) = (cells n k).map kT from kT_map] at this
      exact this
    · have ti : items (.list ((cst n k).map pdC)) = some ((cst n k).map pdC) := rfl
      generalize (rws n).map kT = R
      generalize (cst n k).map pdC = Z at ti
      simp only [ev_fBin, ev_fUn, ev_fCons, ev_fApp, ev_fTup, ev_fLst, ev_fOfL, ev_fTest, ev_fAnd, ev_fOr, ev_fNot, ev_fAndV, ev_fOrV, ev_fNotV, ev_fIf, ev_fFrz, ev_fIter, ev_gSeq, ev_gRet, ev_gIf, ev_gSet, ev_gOwn, ev_gAsg, ev_gPar, ev_gParO, ev_gAug, ev_gApp, ev_gExt, ev_gPut, ev_gFor, ev_fSl, ev_fPart, ev_fRepL, ev_fChain, ev_run, ev_fRng1, ev_fRng2, ev_fRng3, ev_fRgL, ev_fRgT, ev_fRg1, ev_fRg2, ev_fSortSet, ev_tFrz, ev_frz_cons, ev_frz_nil, ev_var0, ev_varS, ev_C, ev_nil, ev_yes, ev_noPart, ev_next, ev_break, ev_cont, ev_no, ev_name, ev_tup2, frzC, wipeE, startE, List.length_cons, List.length_nil, List.map_cons, List.map_nil, List.replicate_succ, List.replicate_zero, List.cons_append, List.nil_append, List.getElem?_cons_zero, List.getElem?_cons_succ, List.set_cons_zero, List.set_cons_succ, Option.map_some, Option.map_none, Nat.reduceAdd, Nat.reduceSub, Nat.reduceLeDiff, if_true, ite_true, ite_false, Nat.zero_add, Nat.add_zero, Nat.sub_self, Nat.sub_zero, ti]
    · have := cst_len M.h9 k
      have p4 : 9 ^ k ≤ 9 ^ 4 := Nat.pow_le_pow_right (by decide) hk
      have : (9 : Nat) ^ 4 = 6561 := by decide
      omega
    · have tp : pdC p = .tuple [.int (p.1 : Int), kT p.2] := rfl
      rw [tp]
      generalize (rws n).map kT = R
      generalize (cst n k).map pdC = Z
      simp only [ev_lcTurn, ev_fBin, ev_fUn, ev_fCons, ev_fApp, ev_fTup, ev_fLst, ev_fOfL, ev_fTest, ev_fAnd, ev_fOr, ev_fNot, ev_fAndV, ev_fOrV, ev_fNotV, ev_fIf, ev_fFrz, ev_fIter, ev_gSeq, ev_gRet, ev_gIf, ev_gSet, ev_gOwn, ev_gAsg, ev_gPar, ev_gParO, ev_gAug, ev_gApp, ev_gExt, ev_gPut, ev_gFor, ev_fSl, ev_fPart, ev_fRepL, ev_fChain, ev_run, ev_fRng1, ev_fRng2, ev_fRng3, ev_fRgL, ev_fRgT, ev_fRg1, ev_fRg2, ev_fSortSet, ev_tFrz, ev_frz_cons, ev_frz_nil, ev_var0, ev_varS, ev_C, ev_nil, ev_yes, ev_noPart, ev_next, ev_break, ev_cont, ev_no, ev_name, ev_tup2, frzC, wipeE, startE, List.length_cons, List.length_nil, List.map_cons, List.map_nil, List.replicate_succ, List.replicate_zero, List.cons_append, List.nil_append, List.getElem?_cons_zero, List.getElem?_cons_succ, List.set_cons_zero, List.set_cons_succ, Option.map_some, Option.map_none, Nat.reduceAdd, Nat.reduceSub, Nat.reduceLeDiff, if_true, ite_true, ite_false, Nat.zero_add, Nat.add_zero, Nat.sub_self, Nat.sub_zero]
  have s0 : PyData.list ((cst n 0).map pdC) = .list [.tuple [.int 0, .tuple []]] := rfl
  rw [s0] at e
  generalize machD n = MD at em er
  generalize (cst n k).map pdC = Z at e e0
  generalize (cells n k).map kT = Z1 at e0 ⊢
  generalize (rws n).map kT = R at er e e0
  simp only [F_cells_at, G_cells_at, ev_fBin, ev_fUn, ev_fCons, ev_fApp, ev_fTup, ev_fLst, ev_fOfL, ev_fTest, ev_fAnd, ev_fOr, ev_fNot, ev_fAndV, ev_fOrV, ev_fNotV, ev_fIf, ev_fFrz, ev_fIter, ev_gSeq, ev_gRet, ev_gIf, ev_gSet, ev_gOwn, ev_gAsg, ev_gPar, ev_gParO, ev_gAug, ev_gApp, ev_gExt, ev_gPut, ev_gFor, ev_fSl, ev_fPart, ev_fRepL, ev_fChain, ev_run, ev_fRng1, ev_fRng2, ev_fRng3, ev_fRgL, ev_fRgT, ev_fRg1, ev_fRg2, ev_fSortSet, ev_tFrz, ev_frz_cons, ev_frz_nil, ev_var0, ev_varS, ev_C, ev_nil, ev_yes, ev_noPart, ev_next, ev_break, ev_cont, ev_no, ev_name, ev_tup2, frzC, wipeE, startE, List.length_cons, List.length_nil, List.map_cons, List.map_nil, List.replicate_succ, List.replicate_zero, List.cons_append, List.nil_append, List.getElem?_cons_zero, List.getElem?_cons_succ, List.set_cons_zero, List.set_cons_succ, Option.map_some, Option.map_none, Nat.reduceAdd, Nat.reduceSub, Nat.reduceLeDiff, if_true, ite_true, ite_false, Nat.zero_add, Nat.add_zero, Nat.sub_self, Nat.sub_zero, frzC, em, er, kn, Int.toNat_natCast, rngD_map, e, e0]
theorem cells_len {n : Int} (h9 : n ≤ 9) (k : Nat) : (cells n k).length ≤ 9 ^ k := by unfold cells; rw [List.length_map]; exact cst_len h9 k
theorem run_fig {C : FA} {a b : D} {Z : List D} {r : D} (e : C [some (.dat a), some (.dat b), none, none] = some Z) (ef : F_figure [.list Z] = some r) : run 4 2 (gRet (fApp F_figure (fCons (fOfL C) fNil))) [a, b] = some r := by
  simp only [ev_fBin, ev_fUn, ev_fCons, ev_fApp, ev_fTup, ev_fLst, ev_fOfL, ev_fTest, ev_fAnd, ev_fOr, ev_fNot, ev_fAndV, ev_fOrV, ev_fNotV, ev_fIf, ev_fFrz, ev_fIter, ev_gSeq, ev_gRet, ev_gIf, ev_gSet, ev_gOwn, ev_gAsg, ev_gPar, ev_gParO, ev_gAug, ev_gApp, ev_gExt, ev_gPut, ev_gFor, ev_fSl, ev_fPart, ev_fRepL, ev_fChain, ev_run, ev_fRng1, ev_fRng2, ev_fRng3, ev_fRgL, ev_fRgT, ev_fRg1, ev_fRg2, ev_fSortSet, ev_tFrz, ev_frz_cons, ev_frz_nil, ev_var0, ev_varS, ev_C, ev_nil, ev_yes, ev_noPart, ev_next, ev_break, ev_cont, ev_no, ev_name, ev_tup2, frzC, wipeE, startE, List.length_cons, List.length_nil, List.map_cons, List.map_nil, List.replicate_succ, List.replicate_zero, List.cons_append, List.nil_append, List.getElem?_cons_zero, List.getElem?_cons_succ, List.set_cons_zero, List.set_cons_succ, Option.map_some, Option.map_none, Nat.reduceAdd, Nat.reduceSub, Nat.reduceLeDiff, if_true, ite_true, ite_false, Nat.zero_add, Nat.add_zero, Nat.sub_self, Nat.sub_zero, frzC, e, ef]
theorem run_sum {C : FA} {a b : D} {Z : List D} {r : D} (e : C [some (.dat a), some (.dat b), none] = some Z) (ef : dSum [.list Z] = some r) : run 3 2 (gRet (fApp dSum (fCons (fOfL C) fNil))) [a, b] = some r := by
  simp only [ev_fBin, ev_fUn, ev_fCons, ev_fApp, ev_fTup, ev_fLst, ev_fOfL, ev_fTest, ev_fAnd, ev_fOr, ev_fNot, ev_fAndV, ev_fOrV, ev_fNotV, ev_fIf, ev_fFrz, ev_fIter, ev_gSeq, ev_gRet, ev_gIf, ev_gSet, ev_gOwn, ev_gAsg, ev_gPar, ev_gParO, ev_gAug, ev_gApp, ev_gExt, ev_gPut, ev_gFor, ev_fSl, ev_fPart, ev_fRepL, ev_fChain, ev_run, ev_fRng1, ev_fRng2, ev_fRng3, ev_fRgL, ev_fRgT, ev_fRg1, ev_fRg2, ev_fSortSet, ev_tFrz, ev_frz_cons, ev_frz_nil, ev_var0, ev_varS, ev_C, ev_nil, ev_yes, ev_noPart, ev_next, ev_break, ev_cont, ev_no, ev_name, ev_tup2, frzC, wipeE, startE, List.length_cons, List.length_nil, List.map_cons, List.map_nil, List.replicate_succ, List.replicate_zero, List.cons_append, List.nil_append, List.getElem?_cons_zero, List.getElem?_cons_succ, List.set_cons_zero, List.set_cons_succ, Option.map_some, Option.map_none, Nat.reduceAdd, Nat.reduceSub, Nat.reduceLeDiff, if_true, ite_true, ite_false, Nat.zero_add, Nat.add_zero, Nat.sub_self, Nat.sub_zero, frzC, e, ef]
theorem m_round_ball {n : Int} (M : Mach n) {k : Nat} (hk : k ≤ 3) (few : (dedup (balL n k)).length ≤ 306) : F_round_ball [.int n, .int (k : Int)] = some (tw (sortRows (balL n k))) := by
  have kn : okI ((k : Int) + 1) = true := okI_of (by omega) (by omega)
  have tn : ((k : Int) + 1).toNat = k + 1 := by omega
  have e : C_round_ball_0 [some (.dat (.int n)), some (.dat (.int (k : Int))), none, none] = some ((balL n k).map kT) := by
    have em : (balL n k).map kT = (List.range (k + 1)).flatMap fun j => (cells n j).map kT := by unfold balL; rw [List.map_flatMap]
    rw [em]
    refine fLc2_flat (l := List.range (k + 1)) (i := fun j : Nat => PyData.int ((0 : Int) + (j : Int))) ?_ (fun j hj => ?_) ?_
    · simp only [ev_fBin, ev_fUn, ev_fCons, ev_fApp, ev_fTup, ev_fLst, ev_fOfL, ev_fTest, ev_fAnd, ev_fOr, ev_fNot, ev_fAndV, ev_fOrV, ev_fNotV, ev_fIf, ev_fFrz, ev_fIter, ev_gSeq, ev_gRet, ev_gIf, ev_gSet, ev_gOwn, ev_gAsg, ev_gPar, ev_gParO, ev_gAug, ev_gApp, ev_gExt, ev_gPut, ev_gFor, ev_fSl, ev_fPart, ev_fRepL, ev_fChain, ev_run, ev_fRng1, ev_fRng2, ev_fRng3, ev_fRgL, ev_fRgT, ev_fRg1, ev_fRg2, ev_fSortSet, ev_tFrz, ev_frz_cons, ev_frz_nil, ev_var0, ev_varS, ev_C, ev_nil, ev_yes, ev_noPart, ev_next, ev_break, ev_cont, ev_no, ev_name, ev_tup2, frzC, wipeE, startE, List.length_cons, List.length_nil, List.map_cons, List.map_nil, List.replicate_succ, List.replicate_zero, List.cons_append, List.nil_append, List.getElem?_cons_zero, List.getElem?_cons_succ, List.set_cons_zero, List.set_cons_succ, Option.map_some, Option.map_none, Nat.reduceAdd, Nat.reduceSub, Nat.reduceLeDiff, if_true, ite_true, ite_false, Nat.zero_add, Nat.add_zero, Nat.sub_self, Nat.sub_zero, kn, tn, rngD_map, dAdd_ii]
    · have hj' := List.mem_range.mp hj
      have ec := m_cells_at M (k := j) (by omega)
      rw [show (j : Int) = 0 + (j : Int) by omega] at ec
      have ti : items (.list ((cells n j).map kT)) = some ((cells n j).map kT) := rfl
      have r : ∀ ρ : Env, fmapO (lcTurn [3] (sName 3) fYes (fVar 3) [some (.dat (.int n)), some (.dat (.int (k : Int))), some (.dat (.int ((0 : Int) + (j : Int)))), none]) ((cells n j).map kT) = some ((cells n j).map kT) := fun ρ => by
        refine fmapO_mapX fun c hc => ?_
        simp only [ev_lcTurn, ev_fBin, ev_fUn, ev_fCons, ev_fApp, ev_fTup, ev_fLst, ev_fOfL, ev_fTest, ev_fAnd, ev_fOr, ev_fNot, ev_fAndV, ev_fOrV, ev_fNotV, ev_fIf, ev_fFrz, ev_fIter, ev_gSeq, ev_gRet, ev_gIf, ev_gSet, ev_gOwn, ev_gAsg, ev_gPar, ev_gParO, ev_gAug, ev_gApp, ev_gExt, ev_gPut, ev_gFor, ev_fSl, ev_fPart, ev_fRepL, ev_fChain, ev_run, ev_fRng1, ev_fRng2, ev_fRng3, ev_fRgL, ev_fRgT, ev_fRg1, ev_fRg2, ev_fSortSet, ev_tFrz, ev_frz_cons, ev_frz_nil, ev_var0, ev_varS, ev_C, ev_nil, ev_yes, ev_noPart, ev_next, ev_break, ev_cont, ev_no, ev_name, ev_tup2, frzC, wipeE, startE, List.length_cons, List.length_nil, List.map_cons, List.map_nil, List.replicate_succ, List.replicate_zero, List.cons_append, List.nil_append, List.getElem?_cons_zero, List.getElem?_cons_succ, List.set_cons_zero, List.set_cons_succ, Option.map_some, Option.map_none, Nat.reduceAdd, Nat.reduceSub, Nat.reduceLeDiff, if_true, ite_true, ite_false, Nat.zero_add, Nat.add_zero, Nat.sub_self, Nat.sub_zero]
      have r := r []
      generalize (cells n j).map kT = Z at r ti ec
      generalize PyData.list Z = Z2 at ti ec
      simp only [ev_lc2Turn, ev_fBin, ev_fUn, ev_fCons, ev_fApp, ev_fTup, ev_fLst, ev_fOfL, ev_fTest, ev_fAnd, ev_fOr, ev_fNot, ev_fAndV, ev_fOrV, ev_fNotV, ev_fIf, ev_fFrz, ev_fIter, ev_gSeq, ev_gRet, ev_gIf, ev_gSet, ev_gOwn, ev_gAsg, ev_gPar, ev_gParO, ev_gAug, ev_gApp, ev_gExt, ev_gPut, ev_gFor, ev_fSl, ev_fPart, ev_fRepL, ev_fChain, ev_run, ev_fRng1, ev_fRng2, ev_fRng3, ev_fRgL, ev_fRgT, ev_fRg1, ev_fRg2, ev_fSortSet, ev_tFrz, ev_frz_cons, ev_frz_nil, ev_var0, ev_varS, ev_C, ev_nil, ev_yes, ev_noPart, ev_next, ev_break, ev_cont, ev_no, ev_name, ev_tup2, frzC, wipeE, startE, List.length_cons, List.length_nil, List.map_cons, List.map_nil, List.replicate_succ, List.replicate_zero, List.cons_append, List.nil_append, List.getElem?_cons_zero, List.getElem?_cons_succ, List.set_cons_zero, List.set_cons_succ, Option.map_some, Option.map_none, Nat.reduceAdd, Nat.reduceSub, Nat.reduceLeDiff, if_true, ite_true, ite_false, Nat.zero_add, Nat.add_zero, Nat.sub_self, Nat.sub_zero, ec, ti, r]
    · rw [← em, List.length_map]
      unfold balL
      refine Nat.le_trans (flat_leX (k := 9 ^ 3) fun j hj => ?_) ?_
      · have := List.mem_range.mp hj
        exact Nat.le_trans (cells_len M.h9 j) (Nat.pow_le_pow_right (by decide) (by omega))
      · rw [List.length_range]
        have : (9 : Nat) ^ 3 = 729 := by decide
        omega
  have ef := m_figure few
  generalize (balL n k).map kT = Z at e ef
  exact run_fig e ef
theorem m_ball {n : Int} (h3 : 3 ≤ n) (h9 : n ≤ 100) {k : Nat} (hk : k ≤ 100) : F_ball [.int n, .int (k : Int)] = some (.int (((List.range (k + 1)).map (rg n)).sum)) := by
  have kn : okI ((k : Int) + 1) = true := okI_of (by omega) (by omega)
  have tn : ((k : Int) + 1).toNat = k + 1 := by omega
  have e : C_ball_0 [some (.dat (.int n)), some (.dat (.int (k : Int))), none] = some ((List.range (k + 1)).map fun j => PyData.int (rg n j)) := by
    refine fLc_map (l := List.range (k + 1)) (i := fun j : Nat => PyData.int ((0 : Int) + (j : Int))) ?_ (by rw [List.length_range]; omega) fun j hj => ?_
    · simp only [ev_fBin, ev_fUn, ev_fCons, ev_fApp, ev_fTup, ev_fLst, ev_fOfL, ev_fTest, ev_fAnd, ev_fOr, ev_fNot, ev_fAndV, ev_fOrV, ev_fNotV, ev_fIf, ev_fFrz, ev_fIter, ev_gSeq, ev_gRet, ev_gIf, ev_gSet, ev_gOwn, ev_gAsg, ev_gPar, ev_gParO, ev_gAug, ev_gApp, ev_gExt, ev_gPut, ev_gFor, ev_fSl, ev_fPart, ev_fRepL, ev_fChain, ev_run, ev_fRng1, ev_fRng2, ev_fRng3, ev_fRgL, ev_fRgT, ev_fRg1, ev_fRg2, ev_fSortSet, ev_tFrz, ev_frz_cons, ev_frz_nil, ev_var0, ev_varS, ev_C, ev_nil, ev_yes, ev_noPart, ev_next, ev_break, ev_cont, ev_no, ev_name, ev_tup2, frzC, wipeE, startE, List.length_cons, List.length_nil, List.map_cons, List.map_nil, List.replicate_succ, List.replicate_zero, List.cons_append, List.nil_append, List.getElem?_cons_zero, List.getElem?_cons_succ, List.set_cons_zero, List.set_cons_succ, Option.map_some, Option.map_none, Nat.reduceAdd, Nat.reduceSub, Nat.reduceLeDiff, if_true, ite_true, ite_false, Nat.zero_add, Nat.add_zero, Nat.sub_self, Nat.sub_zero, kn, tn, rngD_map, dAdd_ii]
    · have hj' := List.mem_range.mp hj
      have er := m_ring h3 h9 (k := j) (by omega)
      rw [show (j : Int) = 0 + (j : Int) by omega] at er
      simp only [ev_lcTurn, ev_fBin, ev_fUn, ev_fCons, ev_fApp, ev_fTup, ev_fLst, ev_fOfL, ev_fTest, ev_fAnd, ev_fOr, ev_fNot, ev_fAndV, ev_fOrV, ev_fNotV, ev_fIf, ev_fFrz, ev_fIter, ev_gSeq, ev_gRet, ev_gIf, ev_gSet, ev_gOwn, ev_gAsg, ev_gPar, ev_gParO, ev_gAug, ev_gApp, ev_gExt, ev_gPut, ev_gFor, ev_fSl, ev_fPart, ev_fRepL, ev_fChain, ev_run, ev_fRng1, ev_fRng2, ev_fRng3, ev_fRgL, ev_fRgT, ev_fRg1, ev_fRg2, ev_fSortSet, ev_tFrz, ev_frz_cons, ev_frz_nil, ev_var0, ev_varS, ev_C, ev_nil, ev_yes, ev_noPart, ev_next, ev_break, ev_cont, ev_no, ev_name, ev_tup2, frzC, wipeE, startE, List.length_cons, List.length_nil, List.map_cons, List.map_nil, List.replicate_succ, List.replicate_zero, List.cons_append, List.nil_append, List.getElem?_cons_zero, List.getElem?_cons_succ, List.set_cons_zero, List.set_cons_succ, Option.map_some, Option.map_none, Nat.reduceAdd, Nat.reduceSub, Nat.reduceLeDiff, if_true, ite_true, ite_false, Nat.zero_add, Nat.add_zero, Nat.sub_self, Nat.sub_zero, er]
  have es : dSum [.list ((List.range (k + 1)).map fun j => PyData.int (rg n j))] = some (.int (((List.range (k + 1)).map (rg n)).sum)) := dSum_map
  generalize (List.range (k + 1)).map (fun j => PyData.int (rg n j)) = Z at e es
  exact run_sum e es
end Wd

set_option Elab.async false
set_option linter.all false
set_option maxRecDepth 100000
set_option maxHeartbeats 4000000
set_option autoImplicit false
/-! fates of towns -/
namespace Wd
open PySem PyProof.Rows L2 Mt
theorem eqv_tw : ∀ {A B : List Wrd}, PyData.eqv (tw A) (tw B) = decide (A = B) := by
  have f : ∀ A B : List Wrd, PyData.eqvAll (A.map kT) (B.map kT) = decide (A = B) := by
    intro A
    induction A with
    | nil => intro B; cases B <;> simp [PyData.eqvAll]
    | cons a A ih =>
      intro B
      cases B with
      | nil => simp [PyData.eqvAll]
      | cons b B =>
        rw [List.map_cons, List.map_cons, PyData.eqvAll, ih B, eqv_kT]
        by_cases q : a = b <;> simp [q]
  exact fun {A B} => f A B
theorem lay_tw {A : List Wrd} : PyData.canLay0 (tw A) = true ∧ PyData.depth (tw A) ≤ 2 := by
  have h1 : PyData.canLayAll0 (A.map kT) = true ∧ PyData.depthAll (A.map kT) ≤ 1 := by
    induction A with
    | nil => exact ⟨rfl, Nat.zero_le _⟩
    | cons a l ih =>
      refine ⟨?_, Nat.max_le.mpr ⟨(lay_kT (a := a)).2, ih.2⟩⟩
      show (PyData.canLay0 (kT a) && PyData.canLayAll0 (l.map kT)) = true
      rw [(lay_kT (a := a)).1, ih.1]; rfl
  exact ⟨h1.1, Nat.succ_le_succ h1.2⟩
theorem shaped_tw {A : List Wrd} : SeqAt.shaped (tw A) = true := by
  unfold SeqAt.shaped
  rw [(lay_tw (A := A)).1, Bool.true_and, decide_eq_true_eq]
  have := (lay_tw (A := A)).2
  omega
theorem shaped_tws (Ls : List (List Wrd)) : SeqAt.shaped (.list (Ls.map tw)) = true := by
  have h1 : PyData.canLayAll0 (Ls.map tw) = true ∧ PyData.depthAll (Ls.map tw) ≤ 2 := by
    induction Ls with
    | nil => exact ⟨rfl, Nat.zero_le _⟩
    | cons a l ih =>
      refine ⟨?_, Nat.max_le.mpr ⟨(lay_tw (A := a)).2, ih.2⟩⟩
      show (PyData.canLay0 (tw a) && PyData.canLayAll0 (l.map tw)) = true
      rw [(lay_tw (A := a)).1, ih.1]; rfl
  show (PyData.canLayAll0 (Ls.map tw) && decide (PyData.depthAll (Ls.map tw) + 1 ≤ 64)) = true
  rw [h1.1, Bool.true_and, decide_eq_true_eq]
  omega
theorem dIn_tw {A : List Wrd} {Ls : List (List Wrd)} : dIn (tw A) (.list (Ls.map tw)) = some (.bool (decide (A ∈ Ls))) := by
  show (if (SeqAt.shaped (tw A) && SeqAt.shaped (.list (Ls.map tw))) = true then some (PyData.bool ((Ls.map tw).any fun z => PyData.eqv z (tw A))) else none) = _
  have ha : ((Ls.map tw).any fun z => PyData.eqv z (tw A)) = decide (A ∈ Ls) := by
    rw [List.any_map, Bool.eq_iff_iff, List.any_eq_true, decide_eq_true_eq]
    constructor
    · rintro ⟨x, hx, e⟩
      have e' : PyData.eqv (tw x) (tw A) = true := e
      rw [eqv_tw, decide_eq_true_eq] at e'
      rw [← e']; exact hx
    · intro h
      refine ⟨A, h, ?_⟩
      show PyData.eqv (tw A) (tw A) = true
      rw [eqv_tw, decide_eq_true_eq]
  rw [shaped_tw, shaped_tws, ha]
  rfl
theorem findIdx_tw {t : List Wrd} : ∀ {L : List (List Wrd)}, t ∈ L → (L.map tw).findIdx? (fun z => PyData.eqv z (tw t)) = some (L.idxOf t)
  | [], h => by cases h
  | a :: L, h => by
    rw [List.map_cons, List.findIdx?_cons, eqv_tw, List.idxOf_cons]
    by_cases q : a = t
    · subst q; simp
    · have hm : t ∈ L := (List.mem_cons.mp h).resolve_left fun z => q z.symm
      rw [decide_eq_false q, findIdx_tw hm]
      have : (a == t) = false := by simpa using q
      rw [this]
      rfl
theorem dIndex_tw {t : List Wrd} {L : List (List Wrd)} (h : t ∈ L) : dIndex (.list (L.map tw)) (tw t) = some (.int (L.idxOf t : Int)) := by
  show (if (SeqAt.shaped (.list (L.map tw)) && SeqAt.shaped (tw t)) = true then match (L.map tw).findIdx? (fun z => PyData.eqv z (tw t)) with
    | some j => (some (PyData.int (j : Nat)) : Option D)
    | none => none else none) = _
  rw [shaped_tws, shaped_tw, findIdx_tw h]
  rfl
theorem lf_tw {A : List Wrd} : lf (tw A) = true := by
  show lfAll (A.map kT) = true
  induction A with
  | nil => rfl
  | cons a A ih =>
    show (lf (kT a) && lfAll (A.map kT)) = true
    rw [ih, lf_kT]; rfl
section
variable {n : Int} {r0 r1 : List Int} {A B : List Wrd} {Ls : List (List Wrd)} {m : Nat} {c3 c5 c6 : Option Cell}
theorem last_tw (hl : Ls.getLast? = some A) (hn : Ls.length ≤ 100) : dIx (.list (Ls.map tw)) (.int (-1)) = some (tw A) := dIx_end (by rw [List.getLast?_map, hl]; rfl) (by rw [List.length_map]; omega)
/-- a beat that is known already -/
theorem b_fate_in (hb : F_beat [.int n, .tuple [kT r0, kT r1], tw A] = some (tw B)) (hl : Ls.getLast? = some A) (hn : Ls.length ≤ 100) (hm : B ∈ Ls) {c2 : Option Cell} :
    B_fate_0 [some (.dat (.int n)), some (.dat (.tuple [kT r0, kT r1])), c2, c3, some (.own (Ls.map tw)), c5, c6] = .rt (.tuple [.int (Ls.idxOf B : Int), .int ((Ls.length : Int) - (Ls.idxOf B : Int))]) := by
  have e1 := last_tw hl hn
  have e2 : dIn (tw B) (.list (Ls.map tw)) = some (.bool true) := by rw [dIn_tw, decide_eq_true hm]
  have e3 := dIndex_tw hm
  have e4 : dLen [.list (Ls.map tw)] = some (.int (Ls.length : Int)) := by rw [dLen_l, List.length_map]
  have lk := lf_tw (A := B)
  have ng : dNeg (.int 1) = some (.int (-1)) := rfl
  generalize PyData.tuple [kT r0, kT r1] = R at hb ⊢
  generalize Ls.map tw = Z at e1 e2 e3 e4 ⊢
  generalize tw B = Z1 at hb e2 e3 lk ⊢
  generalize tw A = Z2 at hb e1 ⊢
  simp only [B_fate_0, ev_fBin, ev_fUn, ev_fCons, ev_fApp, ev_fTup, ev_fLst, ev_fOfL, ev_fTest, ev_fAnd, ev_fOr, ev_fNot, ev_fAndV, ev_fOrV, ev_fNotV, ev_fIf, ev_fFrz, ev_fIter, ev_gSeq, ev_gRet, ev_gIf, ev_gSet, ev_gOwn, ev_gAsg, ev_gPar, ev_gParO, ev_gAug, ev_gApp, ev_gExt, ev_gPut, ev_gFor, ev_fSl, ev_fPart, ev_fRepL, ev_fChain, ev_run, ev_fRng1, ev_fRng2, ev_fRng3, ev_fRgL, ev_fRgT, ev_fRg1, ev_fRg2, ev_fSortSet, ev_tFrz, ev_frz_cons, ev_frz_nil, ev_var0, ev_varS, ev_C, ev_nil, ev_yes, ev_noPart, ev_next, ev_break, ev_cont, ev_no, ev_name, ev_tup2, frzC, wipeE, startE, List.length_cons, List.length_nil, List.map_cons, List.map_nil, List.replicate_succ, List.replicate_zero, List.cons_append, List.nil_append, List.getElem?_cons_zero, List.getElem?_cons_succ, List.set_cons_zero, List.set_cons_succ, Option.map_some, Option.map_none, Nat.reduceAdd, Nat.reduceSub, Nat.reduceLeDiff, if_true, ite_true, ite_false, Nat.zero_add, Nat.add_zero, Nat.sub_self, Nat.sub_zero, frzC, ng, e1, e2, e3, e4, hb, dSub_ii, lk]
/-- a beat that is new -/
theorem b_fate_new (hb : F_beat [.int n, .tuple [kT r0, kT r1], tw A] = some (tw B)) (hl : Ls.getLast? = some A) (hn : Ls.length ≤ 100) (hm : B ∉ Ls) {c2 : Option Cell} :
    B_fate_0 [some (.dat (.int n)), some (.dat (.tuple [kT r0, kT r1])), c2, c3, some (.own (Ls.map tw)), c5, c6] = .nx [some (.dat (.int n)), some (.dat (.tuple [kT r0, kT r1])), c2, c3, some (.own ((Ls ++ [B]).map tw)), c5, some (.dat (tw B))] := by
  have e1 := last_tw hl hn
  have e2 : dIn (tw B) (.list (Ls.map tw)) = some (.bool false) := by rw [dIn_tw, decide_eq_false hm]
  have e4 : (Ls.map tw).length < 100000 := by rw [List.length_map]; omega
  have e5 : (Ls ++ [B]).map tw = Ls.map tw ++ [tw B] := by rw [List.map_append]; rfl
  have lk := lf_tw (A := B)
  have ng : dNeg (.int 1) = some (.int (-1)) := rfl
  rw [e5]
  generalize PyData.tuple [kT r0, kT r1] = R at hb ⊢
  generalize Ls.map tw = Z at e1 e2 e4 ⊢
  generalize tw B = Z1 at hb e2 lk ⊢
  generalize tw A = Z2 at hb e1 ⊢
  simp only [B_fate_0, ev_fBin, ev_fUn, ev_fCons, ev_fApp, ev_fTup, ev_fLst, ev_fOfL, ev_fTest, ev_fAnd, ev_fOr, ev_fNot, ev_fAndV, ev_fOrV, ev_fNotV, ev_fIf, ev_fFrz, ev_fIter, ev_gSeq, ev_gRet, ev_gIf, ev_gSet, ev_gOwn, ev_gAsg, ev_gPar, ev_gParO, ev_gAug, ev_gApp, ev_gExt, ev_gPut, ev_gFor, ev_fSl, ev_fPart, ev_fRepL, ev_fChain, ev_run, ev_fRng1, ev_fRng2, ev_fRng3, ev_fRgL, ev_fRgT, ev_fRg1, ev_fRg2, ev_fSortSet, ev_tFrz, ev_frz_cons, ev_frz_nil, ev_var0, ev_varS, ev_C, ev_nil, ev_yes, ev_noPart, ev_next, ev_break, ev_cont, ev_no, ev_name, ev_tup2, frzC, wipeE, startE, List.length_cons, List.length_nil, List.map_cons, List.map_nil, List.replicate_succ, List.replicate_zero, List.cons_append, List.nil_append, List.getElem?_cons_zero, List.getElem?_cons_succ, List.set_cons_zero, List.set_cons_succ, Option.map_some, Option.map_none, Nat.reduceAdd, Nat.reduceSub, Nat.reduceLeDiff, if_true, ite_true, ite_false, Nat.zero_add, Nat.add_zero, Nat.sub_self, Nat.sub_zero, frzC, ng, e1, e2, e4, hb, lk]
/-- it comes again at the first beat -/
theorem fate_one {k : Nat} (hk : k ≤ 1000) (hb : F_beat [.int n, .tuple [kT r0, kT r1], tw A] = some (tw A)) : F_fate [.int n, .tuple [kT r0, kT r1], tw A, .int ((k : Int) + 1)] = some (.tuple [.int 0, .int 1]) := by
  have b1 := b_fate_in (n := n) (r0 := r0) (r1 := r1) (A := A) (B := A) (Ls := [A]) (c2 := some (.dat (tw A))) (c3 := some (.dat (.int ((k : Int) + 1)))) (c5 := some (.dat (.int 0))) (c6 := none) hb rfl (show 1 ≤ 100 by decide) (.head _)
  have kn : okI ((k : Int) + 1) = true := okI_of (by omega) (by omega)
  have tn : ((k : Int) + 1).toNat = k + 1 := by omega
  have rg1 : rngD 0 (k + 1) = PyData.int 0 :: ((List.range k).map fun j : Nat => PyData.int ((0 : Int) + ((j + 1 : Nat) : Int))) := by
    rw [rngD_map, List.range_succ_eq_map, List.map_cons, List.map_map]
    rfl
  have i0 : [A].idxOf A = 0 := by simp
  rw [i0] at b1
  have b1' : B_fate_0 [some (.dat (.int n)), some (.dat (.tuple [kT r0, kT r1])), some (.dat (tw A)), some (.dat (.int ((k : Int) + 1))), some (.own [tw A]), some (.dat (.int 0)), none] = .rt (.tuple [.int 0, .int 1]) := b1
  have g := fun ds : List D => loop_rt (g := sName 5) (B := B_fate_0) (d := .int 0) (ds := ds) (ρ := [some (.dat (.int n)), some (.dat (.tuple [kT r0, kT r1])), some (.dat (tw A)), some (.dat (.int ((k : Int) + 1))), some (.own [tw A]), none, none]) rfl b1'
  generalize (List.range k).map (fun j : Nat => PyData.int ((0 : Int) + ((j + 1 : Nat) : Int))) = W at rg1
  have g := g W
  generalize PyData.tuple [kT r0, kT r1] = R at g ⊢
  generalize tw A = Z at g ⊢
  generalize (k : Int) + 1 = K at kn tn g ⊢
  simp only [F_fate, G_fate, ev_fBin, ev_fUn, ev_fCons, ev_fApp, ev_fTup, ev_fLst, ev_fOfL, ev_fTest, ev_fAnd, ev_fOr, ev_fNot, ev_fAndV, ev_fOrV, ev_fNotV, ev_fIf, ev_fFrz, ev_fIter, ev_gSeq, ev_gRet, ev_gIf, ev_gSet, ev_gOwn, ev_gAsg, ev_gPar, ev_gParO, ev_gAug, ev_gApp, ev_gExt, ev_gPut, ev_gFor, ev_fSl, ev_fPart, ev_fRepL, ev_fChain, ev_run, ev_fRng1, ev_fRng2, ev_fRng3, ev_fRgL, ev_fRgT, ev_fRg1, ev_fRg2, ev_fSortSet, ev_tFrz, ev_frz_cons, ev_frz_nil, ev_var0, ev_varS, ev_C, ev_nil, ev_yes, ev_noPart, ev_next, ev_break, ev_cont, ev_no, ev_name, ev_tup2, frzC, wipeE, startE, List.length_cons, List.length_nil, List.map_cons, List.map_nil, List.replicate_succ, List.replicate_zero, List.cons_append, List.nil_append, List.getElem?_cons_zero, List.getElem?_cons_succ, List.set_cons_zero, List.set_cons_succ, Option.map_some, Option.map_none, Nat.reduceAdd, Nat.reduceSub, Nat.reduceLeDiff, if_true, ite_true, ite_false, Nat.zero_add, Nat.add_zero, Nat.sub_self, Nat.sub_zero, frzC, kn, tn, rg1, g]
/-- it goes, and stays gone -/
theorem fate_two (hb : F_beat [.int n, .tuple [kT r0, kT r1], tw A] = some (tw B)) (hb2 : F_beat [.int n, .tuple [kT r0, kT r1], tw B] = some (tw B)) (hne : B ≠ A) : F_fate [.int n, .tuple [kT r0, kT r1], tw A, .int 3] = some (.tuple [.int 1, .int 1]) := by
  have b1 : B_fate_0 [some (.dat (.int n)), some (.dat (.tuple [kT r0, kT r1])), some (.dat (tw A)), some (.dat (.int 3)), some (.own [tw A]), some (.dat (.int 0)), none] = .nx [some (.dat (.int n)), some (.dat (.tuple [kT r0, kT r1])), some (.dat (tw A)), some (.dat (.int 3)), some (.own [tw A, tw B]), some (.dat (.int 0)), some (.dat (tw B))] :=
    b_fate_new (n := n) (r0 := r0) (r1 := r1) (A := A) (B := B) (Ls := [A]) hb rfl (show 1 ≤ 100 by decide) (by simpa using hne)
  have b2 := b_fate_in (n := n) (r0 := r0) (r1 := r1) (A := B) (B := B) (Ls := [A, B]) (c2 := some (.dat (tw A))) (c3 := some (.dat (.int 3))) (c5 := some (.dat (.int 1))) (c6 := some (.dat (tw B))) hb2 rfl (show 2 ≤ 100 by decide) (.tail _ (.head _))
  have i1 : [A, B].idxOf B = 1 := by
    rw [List.idxOf_cons]
    have : (A == B) = false := by simpa using fun e : A = B => hne e.symm
    rw [this]
    simp
  rw [i1] at b2
  have b2' : B_fate_0 [some (.dat (.int n)), some (.dat (.tuple [kT r0, kT r1])), some (.dat (tw A)), some (.dat (.int 3)), some (.own [tw A, tw B]), some (.dat (.int 1)), some (.dat (tw B))] = .rt (.tuple [.int 1, .int 1]) := b2
  have g : loop (sName 5) B_fate_0 [.int 0, .int 1, .int 2] [some (.dat (.int n)), some (.dat (.tuple [kT r0, kT r1])), some (.dat (tw A)), some (.dat (.int 3)), some (.own [tw A]), none, none] = .rt (.tuple [.int 1, .int 1]) :=
    (loop_go rfl b1).trans (loop_rt rfl b2')
  have kn : okI 3 = true := okI_of (by decide) (by decide)
  have tn : (3 : Int).toNat = 3 := rfl
  have rg1 : rngD 0 3 = [.int 0, .int 1, .int 2] := rfl
  generalize PyData.tuple [kT r0, kT r1] = R at g ⊢
  generalize tw A = Z at g ⊢
  simp only [F_fate, G_fate, ev_fBin, ev_fUn, ev_fCons, ev_fApp, ev_fTup, ev_fLst, ev_fOfL, ev_fTest, ev_fAnd, ev_fOr, ev_fNot, ev_fAndV, ev_fOrV, ev_fNotV, ev_fIf, ev_fFrz, ev_fIter, ev_gSeq, ev_gRet, ev_gIf, ev_gSet, ev_gOwn, ev_gAsg, ev_gPar, ev_gParO, ev_gAug, ev_gApp, ev_gExt, ev_gPut, ev_gFor, ev_fSl, ev_fPart, ev_fRepL, ev_fChain, ev_run, ev_fRng1, ev_fRng2, ev_fRng3, ev_fRgL, ev_fRgT, ev_fRg1, ev_fRg2, ev_fSortSet, ev_tFrz, ev_frz_cons, ev_frz_nil, ev_var0, ev_varS, ev_C, ev_nil, ev_yes, ev_noPart, ev_next, ev_break, ev_cont, ev_no, ev_name, ev_tup2, frzC, wipeE, startE, List.length_cons, List.length_nil, List.map_cons, List.map_nil, List.replicate_succ, List.replicate_zero, List.cons_append, List.nil_append, List.getElem?_cons_zero, List.getElem?_cons_succ, List.set_cons_zero, List.set_cons_succ, Option.map_some, Option.map_none, Nat.reduceAdd, Nat.reduceSub, Nat.reduceLeDiff, if_true, ite_true, ite_false, Nat.zero_add, Nat.add_zero, Nat.sub_self, Nat.sub_zero, frzC, kn, tn, rg1, g]
/-- two beats, all three apart -/
theorem fate_none {C : List Wrd} (hb : F_beat [.int n, .tuple [kT r0, kT r1], tw A] = some (tw B)) (hb2 : F_beat [.int n, .tuple [kT r0, kT r1], tw B] = some (tw C)) (h1 : B ≠ A) (h2 : C ≠ A) (h3 : C ≠ B) : F_fate [.int n, .tuple [kT r0, kT r1], tw A, .int 2] = some .none := by
  have b1 : B_fate_0 [some (.dat (.int n)), some (.dat (.tuple [kT r0, kT r1])), some (.dat (tw A)), some (.dat (.int 2)), some (.own [tw A]), some (.dat (.int 0)), none] = .nx [some (.dat (.int n)), some (.dat (.tuple [kT r0, kT r1])), some (.dat (tw A)), some (.dat (.int 2)), some (.own [tw A, tw B]), some (.dat (.int 0)), some (.dat (tw B))] :=
    b_fate_new (n := n) (r0 := r0) (r1 := r1) (A := A) (B := B) (Ls := [A]) hb rfl (show 1 ≤ 100 by decide) (by simpa using h1)
  have b2 : B_fate_0 [some (.dat (.int n)), some (.dat (.tuple [kT r0, kT r1])), some (.dat (tw A)), some (.dat (.int 2)), some (.own [tw A, tw B]), some (.dat (.int 1)), some (.dat (tw B))] = .nx [some (.dat (.int n)), some (.dat (.tuple [kT r0, kT r1])), some (.dat (tw A)), some (.dat (.int 2)), some (.own [tw A, tw B, tw C]), some (.dat (.int 1)), some (.dat (tw C))] :=
    b_fate_new (n := n) (r0 := r0) (r1 := r1) (A := B) (B := C) (Ls := [A, B]) hb2 rfl (show 2 ≤ 100 by decide) (by simp [h2, h3])
  have g : loop (sName 5) B_fate_0 [.int 0, .int 1] [some (.dat (.int n)), some (.dat (.tuple [kT r0, kT r1])), some (.dat (tw A)), some (.dat (.int 2)), some (.own [tw A]), none, none] = .nx [some (.dat (.int n)), some (.dat (.tuple [kT r0, kT r1])), some (.dat (tw A)), some (.dat (.int 2)), some (.own [tw A, tw B, tw C]), some (.dat (.int 1)), some (.dat (tw C))] :=
    ((loop_go rfl b1).trans (loop_go rfl b2)).trans rfl
  have kn : okI 2 = true := okI_of (by decide) (by decide)
  have tn : (2 : Int).toNat = 2 := rfl
  have rg1 : rngD 0 2 = [.int 0, .int 1] := rfl
  generalize PyData.tuple [kT r0, kT r1] = R at g ⊢
  generalize tw A = Z at g ⊢
  simp only [F_fate, G_fate, ev_fBin, ev_fUn, ev_fCons, ev_fApp, ev_fTup, ev_fLst, ev_fOfL, ev_fTest, ev_fAnd, ev_fOr, ev_fNot, ev_fAndV, ev_fOrV, ev_fNotV, ev_fIf, ev_fFrz, ev_fIter, ev_gSeq, ev_gRet, ev_gIf, ev_gSet, ev_gOwn, ev_gAsg, ev_gPar, ev_gParO, ev_gAug, ev_gApp, ev_gExt, ev_gPut, ev_gFor, ev_fSl, ev_fPart, ev_fRepL, ev_fChain, ev_run, ev_fRng1, ev_fRng2, ev_fRng3, ev_fRgL, ev_fRgT, ev_fRg1, ev_fRg2, ev_fSortSet, ev_tFrz, ev_frz_cons, ev_frz_nil, ev_var0, ev_varS, ev_C, ev_nil, ev_yes, ev_noPart, ev_next, ev_break, ev_cont, ev_no, ev_name, ev_tup2, frzC, wipeE, startE, List.length_cons, List.length_nil, List.map_cons, List.map_nil, List.replicate_succ, List.replicate_zero, List.cons_append, List.nil_append, List.getElem?_cons_zero, List.getElem?_cons_succ, List.set_cons_zero, List.set_cons_succ, Option.map_some, Option.map_none, Nat.reduceAdd, Nat.reduceSub, Nat.reduceLeDiff, if_true, ite_true, ite_false, Nat.zero_add, Nat.add_zero, Nat.sub_self, Nat.sub_zero, frzC, kn, tn, rg1, g]
end
end Wd

set_option Elab.async false
set_option linter.all false
set_option maxRecDepth 100000
set_option maxHeartbeats 4000000
set_option autoImplicit false
/-! what is picked -/
namespace Wd
open PySem PyProof.Rows L2 Mt
theorem len__law_pick : ∀ (ds : List D) (Φ : D → Prop), R__law_pick ds Φ → ds.length + 1 = 2 := by
  rintro ds Φ ⟨xs, h | h, _⟩ <;> (rw [h]; rfl)
theorem hw__law_pick : ∀ (p : Addr) (pds ds : List D) (Φ : D → Prop), PoolOk pds → R__law_pick ds Φ → W__law_pick (startP 1 p pds ds) fun o => ∃ d ρ' pds', o = .rt d ρ' ∧ Φ d ∧ ρ'[0]? = some (some (.pin p pds')) ∧ PoolOk pds' := by
  rintro p pds ds Φ po ⟨xs, hd, hx0, hx, k⟩
  have key : ∀ d : D, dLen [d] = some (.int xs.length) → (∀ j : Nat, j < xs.length → ∃ x ∈ xs, dIx d (.int (j : Int)) = some x) → W__law_pick (startP 1 p pds [d]) fun o => ∃ d ρ' pds', o = .rt d ρ' ∧ Φ d ∧ ρ'[0]? = some (some (.pin p pds')) ∧ PoolOk pds' := by
    intro d hl hg
    refine ⟨d, rfl, p, pds, [.int (xs.length : Int)], rfl, po, ?_, (xs.length : Int), rfl, by omega, by omega, fun r r0 r1 pds1 po1 => ?_⟩
    · show (fCons (fApp dLen (fCons (fVar 1) fNil)) fNil) [some (Cell.pin p pds), some (.dat d)] = _
      simp only [ev_fBin, ev_fUn, ev_fCons, ev_fApp, ev_fTup, ev_fLst, ev_fOfL, ev_fTest, ev_fAnd, ev_fOr, ev_fNot, ev_fAndV, ev_fOrV, ev_fNotV, ev_fIf, ev_fFrz, ev_fIter, ev_gSeq, ev_gRet, ev_gIf, ev_gSet, ev_gOwn, ev_gAsg, ev_gPar, ev_gParO, ev_gAug, ev_gApp, ev_gExt, ev_gPut, ev_gFor, ev_fSl, ev_fPart, ev_fRepL, ev_fChain, ev_run, ev_fRng1, ev_fRng2, ev_fRng3, ev_fRgL, ev_fRgT, ev_fRg1, ev_fRg2, ev_fSortSet, ev_tFrz, ev_frz_cons, ev_frz_nil, ev_var0, ev_varS, ev_C, ev_nil, ev_yes, ev_noPart, ev_next, ev_break, ev_cont, ev_no, ev_name, ev_tup2, frzC, wipeE, startE, List.length_cons, List.length_nil, List.map_cons, List.map_nil, List.replicate_succ, List.replicate_zero, List.cons_append, List.nil_append, List.getElem?_cons_zero, List.getElem?_cons_succ, List.set_cons_zero, List.set_cons_succ, Option.map_some, Option.map_none, Nat.reduceAdd, Nat.reduceSub, Nat.reduceLeDiff, if_true, ite_true, ite_false, Nat.zero_add, Nat.add_zero, Nat.sub_self, Nat.sub_zero, hl]
    · obtain ⟨x, hxm, e⟩ := hg r.toNat (by omega)
      rw [show ((r.toNat : Nat) : Int) = r by omega] at e
      exact ⟨x, e, _, _, pds1, rfl, k x hxm, rfl, po1⟩
  rcases hd with rfl | rfl
  · refine key (.list xs) rfl fun j hj => ⟨xs[j], List.getElem_mem hj, ?_⟩
    show atI xs (j : Int) = _
    rw [atI_nat hj, List.getElem?_eq_getElem hj]
  · refine key (.tuple xs) rfl fun j hj => ⟨xs[j], List.getElem_mem hj, ?_⟩
    show atI xs (j : Int) = _
    rw [atI_nat hj, List.getElem?_eq_getElem hj]
end Wd

set_option Elab.async false
set_option linter.all false
set_option maxRecDepth 100000
set_option maxHeartbeats 4000000
set_option autoImplicit false
/-! k28: what the law's calls give -/
namespace Wd
open PySem PyProof.Rows L2 Mt
theorem in567 {n : Int} (h5 : 5 ≤ n) (h7 : n ≤ 7) : n ∈ ([5, 6, 7] : List Int) := by
  simp only [List.mem_cons, List.not_mem_nil, or_false]
  omega
theorem mv_nil {n : Int} {g : Wrd} {F : Int → Int} : mv n g F [] = g := rfl
theorem mvL_nil {n : Int} {g : Wrd} {F : Int → Int} : mvL n g F [[]] = [g] := rfl
theorem sortRows_one {g : Wrd} : sortRows [g] = [g] := by
  unfold sortRows
  exact List.mergeSort_singleton g
theorem sortRows_nil : sortRows [] = [] := by
  unfold sortRows
  exact List.mergeSort_nil
/-- the place that is drawn -/
structure B28 (n : Int) (g : Wrd) (F G : Int → Int) : Prop where
  h5 : 5 ≤ n
  h7 : n ≤ 7
  trn : Trn n F G
  ng : Mt.NF n g
  lg : g.length ≤ 3
section
variable {n s : Int} {g : Wrd} {F G : Int → Int} {r0 r1 : List Int}
theorem B28.h3 (A : B28 n g F G) : 3 ≤ n := by have := A.h5; omega
theorem B28.mach (A : B28 n g F G) : Mach n := mach_ok A.h5 (by have := A.h7; omega)
theorem B28.one (A : B28 n g F G) : Twn n [g] 3 := ⟨fun c hc => by rw [List.mem_singleton.mp hc]; exact A.ng, fun c hc => by rw [List.mem_singleton.mp hc]; exact A.lg⟩
theorem nil_all {n : Int} : AllN n [[]] := fun c hc => by rw [List.mem_singleton.mp hc]; exact nf_nil
theorem btS_srt : ∀ m, btS n r0 r1 [g] m = sortRows (btI n r0 r1 [g] m)
  | 0 => sortRows_one.symm
  | m + 1 => btS_sort m
/-- beats of the one cell anywhere -/
theorem B28.bt (A : B28 n g F G) {C : List Wrd} {m : Nat} (h : SameS (btI n r0 r1 [[]] m) C) : btS n r0 r1 [g] m = sortRows (mvL n g F C) := by
  rw [btS_srt]
  refine sortRows_same ?_
  rw [← mvL_nil (n := n) (F := F)]
  exact (btI_mv A.h3 A.trn A.ng nil_all m).trans (mvL_same h)
theorem B28.bt_len (A : B28 n g F G) (m : Nat) : (btS n r0 r1 [g] m).length = (ddp (btI n r0 r1 [[]] m)).length := by
  rw [A.bt (.refl _), sortRows_len, dedup_ddp]
  exact ddp_mvL A.h3 A.trn A.ng (nil_all.btI A.h3 m)
theorem B28.few (A : B28 n g F G) : ∀ j, j < 2 → (btS n r0 r1 [g] j).length + (btS n r0 r1 [g] j).length * n.toNat ≤ 306 := by
  have h7 := A.h7
  have key : ∀ x : Nat, x ≤ 8 → x + x * n.toNat ≤ 306 := fun x hx => by
    have h1 : x * n.toNat ≤ 8 * 7 := Nat.mul_le_mul hx (by omega)
    omega
  intro j hj
  refine key _ ?_
  rcases (show j = 0 ∨ j = 1 by omega) with rfl | rfl
  · show 1 ≤ 8
    decide
  · show (sortRows (Mt.nxtT n r0 r1 [g])).length ≤ 8
    rw [sortRows_len]
    have h1 := dedup_le (Mt.nxtT n r0 r1 [g])
    have h2 : (Mt.nxtT n r0 r1 [g]).length ≤ (grw n [g]).length := List.length_filter_le _ _
    have h4 := grw_len (n := n) (A := [g])
    rw [List.length_singleton] at h4
    omega
theorem B28.beats (A : B28 n g F G) {m : Nat} (hm : m ≤ 2) : F_beats [.int n, .tuple [kT r0, kT r1], tw [g], .int (m : Int)] = some (tw (btS n r0 r1 [g] m)) :=
  m_beats A.h3 (by have := A.h7; omega) A.one (by omega) fun j hj => A.few j (by omega)
theorem chk_get {c : Int → Bool} (h : ([5, 6, 7] : List Int).all c = true) (h5 : 5 ≤ n) (h7 : n ≤ 7) : c n = true := List.all_eq_true.mp h n (in567 h5 h7)
/-- the ball grows -/
theorem B28.ball (A : B28 n g F G) {m : Nat} (hm : m ≤ 2) : SameS (btI n (evr n) (alr n) [[]] m) (balL n m) := by
  have h := chk_get chkB1_all A.h5 A.h7
  unfold chkB1 at h
  exact sameB_iff (List.all_eq_true.mp h m (List.mem_range.mpr (by omega)))
theorem rg_pos {n : Int} (h5 : 5 ≤ n) : 0 ≤ rg n 0 ∧ 0 ≤ rg n 1 ∧ 0 ≤ rg n 2 := by
  refine ⟨?_, ?_, ?_⟩
  · show (0 : Int) ≤ 1
    decide
  · show (0 : Int) ≤ n
    omega
  · show (0 : Int) ≤ n * (n - 2)
    exact Int.mul_nonneg (by omega) (by omega)
theorem B28.ball_len (A : B28 n g F G) {m : Nat} (hm : m ≤ 2) : (((ddp (balL n m)).length : Nat) : Int) = ((List.range (m + 1)).map (rg n)).sum := by
  have h := chk_get chkB5_all A.h5 A.h7
  unfold chkB5 at h
  have := of_decide_eq_true (List.all_eq_true.mp h m (List.mem_range.mpr (by omega)))
  rw [this]
  refine Int.toNat_of_nonneg (sum_nonneg fun x hx => ?_)
  obtain ⟨j, hj, rfl⟩ := List.mem_map.mp hx
  have hj := List.mem_range.mp hj
  obtain ⟨p0, p1, p2⟩ := rg_pos A.h5
  rcases (show j = 0 ∨ j = 1 ∨ j = 2 by omega) with rfl | rfl | rfl
  · exact p0
  · exact p1
  · exact p2
theorem B28.ballTwn (A : B28 n g F G) (m : Nat) : Twn n (sortRows (balL n m)) m := ⟨fun c hc => ((mem_balL A.mach).mp ((mem_sortRows c).mp hc)).1, fun c hc => ((mem_balL A.mach).mp ((mem_sortRows c).mp hc)).2⟩
theorem B28.ball_few (A : B28 n g F G) {m : Nat} (hm : m ≤ 2) : (dedup (balL n m)).length ≤ 306 := by
  have h := A.ball_len hm
  have h5 := A.h5
  have h7 := A.h7
  rw [dedup_ddp]
  have r0 : rg n 0 = 1 := rfl
  have r1 : rg n 1 = n := rfl
  have r2 : rg n 2 = n * (n - 2) := rfl
  have hb : n * (n - 2) ≤ 7 * 5 := Int.mul_le_mul h7 (by omega) (by omega) (by omega)
  rcases (show m = 0 ∨ m = 1 ∨ m = 2 by omega) with rfl | rfl | rfl
  · have : ((List.range (0 + 1)).map (rg n)).sum = rg n 0 + 0 := rfl
    omega
  · have : ((List.range (1 + 1)).map (rg n)).sum = rg n 0 + (rg n 1 + 0) := rfl
    omega
  · have : ((List.range (2 + 1)).map (rg n)).sum = rg n 0 + (rg n 1 + (rg n 2 + 0)) := rfl
    omega
/-- the moved ball -/
theorem B28.moved_ball (A : B28 n g F G) {m : Nat} (hm : m ≤ 2) : F_moved_figure [.int n, mo n g F, tw (sortRows (balL n m))] = some (tw (btS n (evr n) (alr n) [g] m)) := by
  rw [A.bt (A.ball hm)]
  have := m_moved_figure A.h3 A.trn A.ng (A.ballTwn m) (by have := A.lg; omega) (by rw [sortRows_len]; exact A.ball_few hm)
  rw [this, sortRows_same (mvL_same (mem_sortRows (A := balL n m)))]
theorem B28.cellsTwn (A : B28 n g F G) (m : Nat) : Twn n (cells n m) m := ⟨fun c hc => ((mem_cells A.mach).mp hc).1, fun c hc => by rw [((mem_cells A.mach).mp hc).2]; exact Nat.le_refl _⟩
theorem B28.cells_few (A : B28 n g F G) {m : Nat} (hm : m ≤ 1) : (cells n m).length ≤ 9 := by
  have := cells_len (n := n) (by have := A.h7; omega) m
  have p : 9 ^ m ≤ 9 ^ 1 := Nat.pow_le_pow_right (by decide) hm
  omega
theorem B28.moved_cells (A : B28 n g F G) {m : Nat} (hm : m ≤ 1) : F_moved_figure [.int n, mo n g F, tw (cells n m)] = some (tw (sortRows (mvL n g F (cells n m)))) :=
  m_moved_figure A.h3 A.trn A.ng (A.cellsTwn m) (by have := A.lg; omega) (by have := A.cells_few hm; omega)
theorem B28.rings (A : B28 n g F G) {m : Nat} (hm : m ≤ 1) : btS n (evr n) [] [g] m = sortRows (mvL n g F (cells n m)) := by
  refine A.bt ?_
  rcases (show m = 0 ∨ m = 1 by omega) with rfl | rfl
  · exact .refl _
  · have h := chk_get chkB2_all A.h5 A.h7
    unfold chkB2 at h
    rw [Bool.and_eq_true] at h
    exact sameB_iff h.1
theorem B28.rings_two (A : B28 n g F G) : (((btS n (evr n) [] [g] 2).length : Nat) : Int) = rg n 2 + 1 := by
  have h := chk_get chkB2_all A.h5 A.h7
  unfold chkB2 at h
  rw [Bool.and_eq_true, decide_eq_true_eq] at h
  rw [A.bt_len, h.2]
  have := (rg_pos A.h5).2.2
  exact Int.toNat_of_nonneg (by omega)
theorem B28.lone (A : B28 n g F G) : (((btS n [1] [] [g] 2).length : Nat) : Int) = n * (n - 3) ∧ btS n [2] [] [g] 1 = [] := by
  have h := chk_get chkB3_all A.h5 A.h7
  have h5 := A.h5
  unfold chkB3 at h
  rw [Bool.and_eq_true, Bool.and_eq_true, decide_eq_true_eq, decide_eq_true_eq] at h
  refine ⟨?_, ?_⟩
  · rw [A.bt_len, h.1.1]
    exact Int.toNat_of_nonneg (Int.mul_nonneg (by omega) (by omega))
  · rw [A.bt (r0 := [2]) (r1 := []) (C := []) (by rw [h.1.2]; exact .refl _)]
    exact sortRows_nil
/-- the ring, and then its own beat -/
theorem B28.two (A : B28 n g F G) : F_beats [.int n, .tuple [kT [2], kT []], tw (sortRows (mvL n g F (cells n 1))), .int 1] = some (tw (btS n [2] [] (sortRows (mvL n g F (cells n 1))) 1)) ∧ (((btS n [2] [] (sortRows (mvL n g F (cells n 1))) 1).length : Nat) : Int) = n := by
  have h5 := A.h5
  have h7 := A.h7
  have hT : Twn n (sortRows (mvL n g F (cells n 1))) 4 := by
    refine Twn.sort ⟨AllN.mvL A.h3 A.trn A.ng (A.cellsTwn 1).nf, fun c hc => ?_⟩
    obtain ⟨d, hd, rfl⟩ := List.mem_map.mp hc
    have h1 := mv_len (n := n) (g := g) (c := d) (F := F)
    have h2 := (A.cellsTwn 1).len d hd
    have h3 := A.lg
    omega
  have hl : (sortRows (mvL n g F (cells n 1))).length ≤ 9 := by
    rw [sortRows_len]
    have h1 := dedup_le (mvL n g F (cells n 1))
    have h2 : (mvL n g F (cells n 1)).length = (cells n 1).length := by unfold mvL; rw [List.length_map]
    have h3 := A.cells_few (m := 1) (by decide)
    omega
  refine ⟨m_beats (k := 1) A.h3 (by omega) hT (by decide) fun j hj => ?_, ?_⟩
  · obtain rfl : j = 0 := by omega
    show (sortRows (mvL n g F (cells n 1))).length + (sortRows (mvL n g F (cells n 1))).length * n.toNat ≤ 306
    have h1 : (sortRows (mvL n g F (cells n 1))).length * n.toNat ≤ 9 * 7 := Nat.mul_le_mul hl (by omega)
    omega
  · have h := chk_get chkB3_all A.h5 A.h7
    unfold chkB3 at h
    rw [Bool.and_eq_true, Bool.and_eq_true, decide_eq_true_eq] at h
    have h := of_decide_eq_true h.2
    rw [btS_sort, sortRows_len, dedup_ddp]
    have e1 : SameS (btI n [2] [] (sortRows (mvL n g F (cells n 1))) 1) (mvL n g F (btI n [2] [] (cells n 1) 1)) :=
      (btI_same (mem_sortRows (A := mvL n g F (cells n 1))) 1).trans (btI_mv A.h3 A.trn A.ng (A.cellsTwn 1).nf 1)
    rw [ddp_same e1, ddp_mvL A.h3 A.trn A.ng ((show AllN n (cells n 1) from (A.cellsTwn 1).nf).btI A.h3 1), h]
    exact Int.toNat_of_nonneg (by omega)
/-- a cell and a neighbour -/
def pair2 (n : Int) (g : Wrd) (s : Int) : List Wrd := sortRows [g, crs n g s]
theorem B28.pair (A : B28 n g F G) (hs : 0 ≤ s ∧ s < n) : SameS (pair2 n g s) (mvL n g F [[], [G s]]) := by
  refine (mem_sortRows (A := [g, crs n g s])).trans fun c => ?_
  have e : mv n g F [G s] = crs n g s := by
    have := mv_crs A.h3 A.trn A.ng (nf_nil (n := n)) (A.trn.gr s hs)
    rw [A.trn.fg, mv_nil] at this
    have ec : crs n [] (G s) = [G s] := NF.ext A.h3 (NF.crs A.h3 (nf_nil (n := n)) (A.trn.gr s hs)) (Wl.single A.h3 (A.trn.gr s hs)).nfm (act_crs A.h3 (nf_nil (n := n)) (A.trn.gr s hs))
    rw [ec] at this
    exact this
  show c ∈ [g, crs n g s] ↔ c ∈ [mv n g F [], mv n g F [G s]]
  rw [e, mv_nil]
theorem B28.pairTwn (A : B28 n g F G) (hs : 0 ≤ s ∧ s < n) : Twn n (pair2 n g s) 4 := by
  refine Twn.sort ⟨fun c hc => ?_, fun c hc => ?_⟩
  · rcases List.mem_cons.mp hc with z | z
    · rw [z]; exact A.ng
    · rw [List.mem_singleton.mp z]; exact NF.crs A.h3 A.ng hs
  · have h1 := A.lg
    have h2 := crs_len_le (n := n) (c := g) (s := s)
    rcases List.mem_cons.mp hc with z | z
    · rw [z]; omega
    · rw [List.mem_singleton.mp z]; omega
theorem pair_len {n s : Int} {g : Wrd} : (pair2 n g s).length ≤ 2 := by
  unfold pair2
  rw [sortRows_len]
  exact dedup_le _
theorem sort_sort {A : List Wrd} : sortRows (sortRows A) = sortRows A := sortRows_same mem_sortRows
theorem B28.pair_stays (A : B28 n g F G) (hs : 0 ≤ s ∧ s < n) : F_beat [.int n, .tuple [kT [3], kT [1]], tw (pair2 n g s)] = some (tw (pair2 n g s)) := by
  have h5 := A.h5
  have h7 := A.h7
  have hl := pair_len (n := n) (s := s) (g := g)
  have hb := m_beat (r0 := [3]) (r1 := [1]) A.h3 (by omega) (A.pairTwn hs) (by omega) (by
    have h1 : (pair2 n g s).length * n.toNat ≤ 2 * 7 := Nat.mul_le_mul hl (by omega)
    omega)
  rw [hb]
  have h := chk_get chkB4_all A.h5 A.h7
  unfold chkB4 at h
  rw [Bool.and_eq_true] at h
  have hq := sameB_iff (List.all_eq_true.mp h.2 (G s) (mem_sides.mpr (A.trn.gr s hs)))
  have all : AllN n [[], [G s]] := fun c hc => by
    rcases List.mem_cons.mp hc with z | z
    · rw [z]; exact nf_nil
    · rw [List.mem_singleton.mp z]
      exact (Wl.single A.h3 (A.trn.gr s hs)).nfm
  have e := (nxtT_same (n := n) (r0 := [3]) (r1 := [1]) (A.pair hs)).trans ((nxtT_mv A.h3 A.trn A.ng all).trans ((mvL_same hq).trans (A.pair hs).symm))
  rw [sortRows_same e]
  unfold pair2
  rw [sort_sort]
theorem B28.gone (A : B28 n g F G) : F_beat [.int n, .tuple [kT [3], kT [1]], tw [g]] = some (tw []) ∧ F_beat [.int n, .tuple [kT [3], kT [1]], tw []] = some (tw []) := by
  have h5 := A.h5
  have h7 := A.h7
  refine ⟨?_, ?_⟩
  · rw [m_beat (r0 := [3]) (r1 := [1]) A.h3 (by omega) A.one (by omega) (A.few (r0 := []) (r1 := []) 0 (by decide))]
    have h := chk_get chkB4_all A.h5 A.h7
    unfold chkB4 at h
    rw [Bool.and_eq_true, decide_eq_true_eq] at h
    have e : sortRows (Mt.nxtT n [3] [1] [g]) = btS n [3] [1] [g] 1 := rfl
    rw [e, A.bt (r0 := [3]) (r1 := [1]) (m := 1) (C := []) (by show SameS (Mt.nxtT n [3] [1] [[]]) []; rw [h.1]; exact .refl _)]
    rw [show mvL n g F [] = [] from rfl, sortRows_nil]
  · rw [m_beat (r0 := [3]) (r1 := [1]) (A := []) (m := 0) A.h3 (by omega) ⟨fun c hc => (by cases hc), fun c hc => (by cases hc)⟩ (by omega) (by show 0 + 0 * n.toNat ≤ 306; omega)]
    rw [show Mt.nxtT n [3] [1] [] = [] from rfl, sortRows_nil]
theorem B28.none (A : B28 n g F G) : F_fate [.int n, .tuple [kT (evr n), kT (alr n)], tw [g], .int 2] = some .none := by
  have h5 := A.h5
  have h7 := A.h7
  have b1 := m_beat (r0 := evr n) (r1 := alr n) A.h3 (by omega) A.one (by omega) (A.few (r0 := []) (r1 := []) 0 (by decide))
  have b2 := m_beat (r0 := evr n) (r1 := alr n) A.h3 (by omega) (btS_twn (r0 := evr n) (r1 := alr n) A.h3 A.one 1) (by omega) (A.few 1 (by decide))
  have l : ∀ m, m ≤ 2 → (((btS n (evr n) (alr n) [g] m).length : Nat) : Int) = ((List.range (m + 1)).map (rg n)).sum := fun m hm => by
    rw [A.bt_len, ddp_same (A.ball hm), A.ball_len hm]
  have l0 : ((([g] : List Wrd).length : Nat) : Int) = 1 := rfl
  have l1 : (((btS n (evr n) (alr n) [g] 1).length : Nat) : Int) = 1 + (n + 0) := l 1 (by decide)
  have l2 : (((btS n (evr n) (alr n) [g] 2).length : Nat) : Int) = 1 + (n + (n * (n - 2) + 0)) := l 2 (by decide)
  have hp : 0 < n * (n - 2) := Int.mul_pos (by omega) (by omega)
  refine fate_none (B := btS n (evr n) (alr n) [g] 1) (C := btS n (evr n) (alr n) [g] 2) b1 b2 (fun e => ?_) (fun e => ?_) fun e => ?_
  · rw [e] at l1; omega
  · rw [e] at l2; omega
  · rw [e] at l2; omega
end
end Wd

set_option Elab.async false
set_option linter.all false
set_option maxRecDepth 100000
set_option maxHeartbeats 4000000
set_option autoImplicit false
namespace Wd
open PySem PyProof.Rows L2 Mt
theorem good_tw {A : List Wrd} (h : A.length ≤ 100000) (hl : ∀ w ∈ A, w.length ≤ 100000) : good (tw A) = true ∧ dep (tw A) ≤ 2 := good_kTs h hl
theorem same_tw {A : List Wrd} (h : A.length ≤ 100000) (hl : ∀ w ∈ A, w.length ≤ 100000) : F__law_same 8 [tw A, tw A] = some (.bool true) := by
  obtain ⟨g1, g2⟩ := good_tw h hl
  exact m_same 8 (tw A) g1 (by omega)
theorem same_list {ds : List D} (h : ds.length ≤ 1000) (hg : goodAll ds = true) (hd : depAll ds ≤ 5) : F__law_same 8 [.list ds, .list ds] = some (.bool true) := by
  refine m_same 8 (.list ds) ?_ (by show depAll ds + 1 < 8; omega)
  show (decide (ds.length ≤ 100000) && goodAll ds) = true
  rw [decide_eq_true (by omega), hg]
  rfl
theorem rng_ev {n : Int} (h0 : 0 ≤ n) : PyData.tuple (rngD 1 n.toNat) = kT (evr n) := by
  unfold kT evr sides rngD
  rw [List.map_map, List.map_map]
  congr 1
  apply List.map_congr_left
  intro i _
  show PyData.int ((1 : Int) + (i : Int)) = PyData.int ((i : Int) + 1)
  rw [Int.add_comm]
theorem rng_al {n : Int} : PyData.tuple (rngD 0 (n + 1).toNat) = kT (alr n) := by
  unfold kT alr sides rngD
  rw [List.map_map]
  congr 1
  apply List.map_congr_left
  intro i _
  show PyData.int ((0 : Int) + (i : Int)) = PyData.int (i : Int)
  rw [Int.zero_add]
theorem okRg_of {a b : Int} (h1 : -1000 ≤ a ∧ a ≤ 1000) (h2 : -1000 ≤ b ∧ b ≤ 1000) : okRg a b = true := by
  unfold okRg
  rw [okI_of (by omega) (by omega), okI_of (by omega) (by omega), decide_eq_true (by omega)]
  rfl
section
variable {n s : Int} {g : Wrd} {F G : Int → Int} {m : Nat} {ρ : Env}
theorem l28_6 (e3 : fVar 3 ρ = some (mo n g F)) : L_law_6 ρ = .nx (ρ.set 4 (some (.dat (kT g)))) := by
  have i0 : dIx (mo n g F) (.int 0) = some (kT g) := rfl
  generalize mo n g F = M at e3 i0
  simp only [L_law_6, ev_fBin, ev_fUn, ev_fCons, ev_fApp, ev_fTup, ev_fLst, ev_fOfL, ev_fTest, ev_fAnd, ev_fOr, ev_fNot, ev_fAndV, ev_fOrV, ev_fNotV, ev_fIf, ev_fFrz, ev_fIter, ev_gSeq, ev_gRet, ev_gIf, ev_gSet, ev_gOwn, ev_gAsg, ev_gPar, ev_gParO, ev_gAug, ev_gApp, ev_gExt, ev_gPut, ev_gFor, ev_fSl, ev_fPart, ev_fRepL, ev_fChain, ev_run, ev_fRng1, ev_fRng2, ev_fRng3, ev_fRgL, ev_fRgT, ev_fRg1, ev_fRg2, ev_fSortSet, ev_tFrz, ev_frz_cons, ev_frz_nil, ev_var0, ev_varS, ev_C, ev_nil, ev_yes, ev_noPart, ev_next, ev_break, ev_cont, ev_no, ev_name, ev_tup2, frzC, wipeE, startE, List.length_cons, List.length_nil, List.map_cons, List.map_nil, List.replicate_succ, List.replicate_zero, List.cons_append, List.nil_append, List.getElem?_cons_zero, List.getElem?_cons_succ, List.set_cons_zero, List.set_cons_succ, Option.map_some, Option.map_none, Nat.reduceAdd, Nat.reduceSub, Nat.reduceLeDiff, if_true, ite_true, ite_false, Nat.zero_add, Nat.add_zero, Nat.sub_self, Nat.sub_zero, e3, i0]
theorem l28_5 (h0 : 0 ≤ n) (h9 : n ≤ 900) (e2 : fVar 2 ρ = some (.int n)) : L_law_5 ρ = .nx (ρ.set 5 (some (.dat (kT (evr n))))) := by
  have kn : okRg 1 (n + 1) = true := okRg_of ⟨by decide, by decide⟩ ⟨by omega, by omega⟩
  have e := rng_ev h0
  have t : (n + 1 - 1).toNat = n.toNat := by rw [Int.add_sub_cancel]
  simp only [L_law_5, ev_fBin, ev_fUn, ev_fCons, ev_fApp, ev_fTup, ev_fLst, ev_fOfL, ev_fTest, ev_fAnd, ev_fOr, ev_fNot, ev_fAndV, ev_fOrV, ev_fNotV, ev_fIf, ev_fFrz, ev_fIter, ev_gSeq, ev_gRet, ev_gIf, ev_gSet, ev_gOwn, ev_gAsg, ev_gPar, ev_gParO, ev_gAug, ev_gApp, ev_gExt, ev_gPut, ev_gFor, ev_fSl, ev_fPart, ev_fRepL, ev_fChain, ev_run, ev_fRng1, ev_fRng2, ev_fRng3, ev_fRgL, ev_fRgT, ev_fRg1, ev_fRg2, ev_fSortSet, ev_tFrz, ev_frz_cons, ev_frz_nil, ev_var0, ev_varS, ev_C, ev_nil, ev_yes, ev_noPart, ev_next, ev_break, ev_cont, ev_no, ev_name, ev_tup2, frzC, wipeE, startE, List.length_cons, List.length_nil, List.map_cons, List.map_nil, List.replicate_succ, List.replicate_zero, List.cons_append, List.nil_append, List.getElem?_cons_zero, List.getElem?_cons_succ, List.set_cons_zero, List.set_cons_succ, Option.map_some, Option.map_none, Nat.reduceAdd, Nat.reduceSub, Nat.reduceLeDiff, if_true, ite_true, ite_false, Nat.zero_add, Nat.add_zero, Nat.sub_self, Nat.sub_zero, e2, dAdd_ii, kn, t, e]
theorem l28_4 (A : B28 n g F G) (hm : m ≤ 2) (e2 : fVar 2 ρ = some (.int n)) (e4 : fVar 4 ρ = some (kT g)) (e5 : fVar 5 ρ = some (kT (evr n))) (e6 : fVar 6 ρ = some (.int (m : Int))) : L_law_4 ρ = .nx (ρ.set 7 (some (.dat (tw (btS n (evr n) (alr n) [g] m))))) := by
  have h7 := A.h7
  have h5 := A.h5
  have hb := A.beats (r0 := evr n) (r1 := alr n) hm
  have kn : okRg 0 (n + 1) = true := okRg_of (by omega) (by omega)
  have e := rng_al (n := n)
  have s0 : (n + 1 - 0).toNat = (n + 1).toNat := by rw [Int.sub_zero]
  have tg : tw [g] = .tuple [kT g] := rfl
  rw [tg] at hb
  generalize tw (btS n (evr n) (alr n) [g] m) = Z at hb ⊢
  simp only [L_law_4, ev_fBin, ev_fUn, ev_fCons, ev_fApp, ev_fTup, ev_fLst, ev_fOfL, ev_fTest, ev_fAnd, ev_fOr, ev_fNot, ev_fAndV, ev_fOrV, ev_fNotV, ev_fIf, ev_fFrz, ev_fIter, ev_gSeq, ev_gRet, ev_gIf, ev_gSet, ev_gOwn, ev_gAsg, ev_gPar, ev_gParO, ev_gAug, ev_gApp, ev_gExt, ev_gPut, ev_gFor, ev_fSl, ev_fPart, ev_fRepL, ev_fChain, ev_run, ev_fRng1, ev_fRng2, ev_fRng3, ev_fRgL, ev_fRgT, ev_fRg1, ev_fRg2, ev_fSortSet, ev_tFrz, ev_frz_cons, ev_frz_nil, ev_var0, ev_varS, ev_C, ev_nil, ev_yes, ev_noPart, ev_next, ev_break, ev_cont, ev_no, ev_name, ev_tup2, frzC, wipeE, startE, List.length_cons, List.length_nil, List.map_cons, List.map_nil, List.replicate_succ, List.replicate_zero, List.cons_append, List.nil_append, List.getElem?_cons_zero, List.getElem?_cons_succ, List.set_cons_zero, List.set_cons_succ, Option.map_some, Option.map_none, Nat.reduceAdd, Nat.reduceSub, Nat.reduceLeDiff, if_true, ite_true, ite_false, Nat.zero_add, Nat.add_zero, Nat.sub_self, Nat.sub_zero, e2, e4, e5, e6, dAdd_ii, kn, s0, e, hb]
theorem btS_len (A : B28 n g F G) {r0 r1 : List Int} (k : Nat) (hk : k ≤ 2) : (∀ w ∈ btS n r0 r1 [g] k, w.length ≤ 100000) := fun w hw => by
  have := (btS_twn (r0 := r0) (r1 := r1) A.h3 A.one k).len w hw
  omega
theorem B28.size (A : B28 n g F G) (hm : m ≤ 2) : (((btS n (evr n) (alr n) [g] m).length : Nat) : Int) = ((List.range (m + 1)).map (rg n)).sum := by
  rw [A.bt_len, ddp_same (A.ball hm), A.ball_len hm]
theorem B28.size_le (A : B28 n g F G) (hm : m ≤ 2) : (btS n (evr n) (alr n) [g] m).length ≤ 306 := by
  have h := A.size hm
  have h2 := A.ball_few hm
  rw [dedup_ddp] at h2
  have h3 := A.ball_len hm
  omega
theorem t28_5 (A : B28 n g F G) (hm : m ≤ 2) (e2 : fVar 2 ρ = some (.int n)) (e3 : fVar 3 ρ = some (mo n g F)) (e6 : fVar 6 ρ = some (.int (m : Int))) (e7 : fVar 7 ρ = some (tw (btS n (evr n) (alr n) [g] m))) : T_law_5 ρ = some false := by
  have h7 := A.h7
  have h5 := A.h5
  have hr := m_round_ball A.mach (k := m) (by omega) (A.ball_few hm)
  have hmv := A.moved_ball hm
  have hba := m_ball A.h3 (by omega) (k := m) (by omega)
  have hl : dLen [tw (btS n (evr n) (alr n) [g] m)] = some (.int (((List.range (m + 1)).map (rg n)).sum)) := by
    rw [← A.size hm]
    show some (PyData.int (((btS n (evr n) (alr n) [g] m).map kT).length : Nat)) = _
    rw [List.length_map]
  obtain ⟨g1, g2⟩ := good_tw (A := btS n (evr n) (alr n) [g] m) (by have := A.size_le hm; omega) (btS_len A m hm)
  have hs : ∀ x : Int, F__law_same 8 [.list [tw (btS n (evr n) (alr n) [g] m), .int x], .list [tw (btS n (evr n) (alr n) [g] m), .int x]] = some (.bool true) := fun x =>
    same_list (by show 2 ≤ 1000; decide) (by show (good (tw _) && (true && true)) = true; rw [g1]; rfl) (by show max (dep (tw _)) (max 0 0) ≤ 5; omega)
  have hs := hs ((List.range (m + 1)).map (rg n)).sum
  generalize ((List.range (m + 1)).map (rg n)).sum = x at hba hl hs
  generalize tw (btS n (evr n) (alr n) [g] m) = Z at hmv hl hs e7
  generalize tw (sortRows (balL n m)) = Z1 at hr hmv
  generalize mo n g F = M at e3 hmv
  simp only [T_law_5, ev_fBin, ev_fUn, ev_fCons, ev_fApp, ev_fTup, ev_fLst, ev_fOfL, ev_fTest, ev_fAnd, ev_fOr, ev_fNot, ev_fAndV, ev_fOrV, ev_fNotV, ev_fIf, ev_fFrz, ev_fIter, ev_gSeq, ev_gRet, ev_gIf, ev_gSet, ev_gOwn, ev_gAsg, ev_gPar, ev_gParO, ev_gAug, ev_gApp, ev_gExt, ev_gPut, ev_gFor, ev_fSl, ev_fPart, ev_fRepL, ev_fChain, ev_run, ev_fRng1, ev_fRng2, ev_fRng3, ev_fRgL, ev_fRgT, ev_fRg1, ev_fRg2, ev_fSortSet, ev_tFrz, ev_frz_cons, ev_frz_nil, ev_var0, ev_varS, ev_C, ev_nil, ev_yes, ev_noPart, ev_next, ev_break, ev_cont, ev_no, ev_name, ev_tup2, frzC, wipeE, startE, List.length_cons, List.length_nil, List.map_cons, List.map_nil, List.replicate_succ, List.replicate_zero, List.cons_append, List.nil_append, List.getElem?_cons_zero, List.getElem?_cons_succ, List.set_cons_zero, List.set_cons_succ, Option.map_some, Option.map_none, Nat.reduceAdd, Nat.reduceSub, Nat.reduceLeDiff, if_true, ite_true, ite_false, Nat.zero_add, Nat.add_zero, Nat.sub_self, Nat.sub_zero, e2, e3, e6, e7, hr, hmv, hba, hl, hs, Nat.reduceLeDiff]
  try rfl
theorem l28_3 (A : B28 n g F G) (hm : m ≤ 2) (e2 : fVar 2 ρ = some (.int n)) (e4 : fVar 4 ρ = some (kT g)) (e5 : fVar 5 ρ = some (kT (evr n))) (e6 : fVar 6 ρ = some (.int (m : Int))) : L_law_3 ρ = .nx (ρ.set 8 (some (.dat (tw (btS n (evr n) [] [g] m))))) := by
  have hb := A.beats (r0 := evr n) (r1 := []) hm
  have tg : tw [g] = .tuple [kT g] := rfl
  have t0 : kT [] = PyData.tuple [] := rfl
  rw [tg, t0] at hb
  generalize tw (btS n (evr n) [] [g] m) = Z at hb ⊢
  simp only [L_law_3, ev_fBin, ev_fUn, ev_fCons, ev_fApp, ev_fTup, ev_fLst, ev_fOfL, ev_fTest, ev_fAnd, ev_fOr, ev_fNot, ev_fAndV, ev_fOrV, ev_fNotV, ev_fIf, ev_fFrz, ev_fIter, ev_gSeq, ev_gRet, ev_gIf, ev_gSet, ev_gOwn, ev_gAsg, ev_gPar, ev_gParO, ev_gAug, ev_gApp, ev_gExt, ev_gPut, ev_gFor, ev_fSl, ev_fPart, ev_fRepL, ev_fChain, ev_run, ev_fRng1, ev_fRng2, ev_fRng3, ev_fRgL, ev_fRgT, ev_fRg1, ev_fRg2, ev_fSortSet, ev_tFrz, ev_frz_cons, ev_frz_nil, ev_var0, ev_varS, ev_C, ev_nil, ev_yes, ev_noPart, ev_next, ev_break, ev_cont, ev_no, ev_name, ev_tup2, frzC, wipeE, startE, List.length_cons, List.length_nil, List.map_cons, List.map_nil, List.replicate_succ, List.replicate_zero, List.cons_append, List.nil_append, List.getElem?_cons_zero, List.getElem?_cons_succ, List.set_cons_zero, List.set_cons_succ, Option.map_some, Option.map_none, Nat.reduceAdd, Nat.reduceSub, Nat.reduceLeDiff, if_true, ite_true, ite_false, Nat.zero_add, Nat.add_zero, Nat.sub_self, Nat.sub_zero, e2, e4, e5, e6, hb, Nat.zero_le]
theorem t28_4 (A : B28 n g F G) (hm : m ≤ 2) (e2 : fVar 2 ρ = some (.int n)) (e3 : fVar 3 ρ = some (mo n g F)) (e6 : fVar 6 ρ = some (.int (m : Int))) (e8 : fVar 8 ρ = some (tw (btS n (evr n) [] [g] m))) : T_law_4 ρ = some false := by
  by_cases q : m ≤ 1
  · have t : decide ((m : Int) < 2) = true := decide_eq_true (by omega)
    have hc := m_cells_at A.mach (k := m) (by omega)
    have hmv := A.moved_cells q
    rw [← A.rings q] at hmv
    have hl : (btS n (evr n) [] [g] m).length ≤ 306 := by
      rw [A.rings q, sortRows_len]
      have h1 := dedup_le (mvL n g F (cells n m))
      have h2 : (mvL n g F (cells n m)).length = (cells n m).length := by unfold mvL; rw [List.length_map]
      have h3 := A.cells_few q
      omega
    have hs := same_tw (A := btS n (evr n) [] [g] m) (by omega) (btS_len A m hm)
    have ht : dTuple [.list ((cells n m).map kT)] = some (tw (cells n m)) := rfl
    generalize tw (btS n (evr n) [] [g] m) = Z at hmv hs e8
    generalize tw (cells n m) = Z1 at hmv ht
    generalize (cells n m).map kT = Z2 at hc ht
    generalize mo n g F = M at e3 hmv
    simp only [T_law_4, ev_fBin, ev_fUn, ev_fCons, ev_fApp, ev_fTup, ev_fLst, ev_fOfL, ev_fTest, ev_fAnd, ev_fOr, ev_fNot, ev_fAndV, ev_fOrV, ev_fNotV, ev_fIf, ev_fFrz, ev_fIter, ev_gSeq, ev_gRet, ev_gIf, ev_gSet, ev_gOwn, ev_gAsg, ev_gPar, ev_gParO, ev_gAug, ev_gApp, ev_gExt, ev_gPut, ev_gFor, ev_fSl, ev_fPart, ev_fRepL, ev_fChain, ev_run, ev_fRng1, ev_fRng2, ev_fRng3, ev_fRgL, ev_fRgT, ev_fRg1, ev_fRg2, ev_fSortSet, ev_tFrz, ev_frz_cons, ev_frz_nil, ev_var0, ev_varS, ev_C, ev_nil, ev_yes, ev_noPart, ev_next, ev_break, ev_cont, ev_no, ev_name, ev_tup2, frzC, wipeE, startE, List.length_cons, List.length_nil, List.map_cons, List.map_nil, List.replicate_succ, List.replicate_zero, List.cons_append, List.nil_append, List.getElem?_cons_zero, List.getElem?_cons_succ, List.set_cons_zero, List.set_cons_succ, Option.map_some, Option.map_none, Nat.reduceAdd, Nat.reduceSub, Nat.reduceLeDiff, if_true, ite_true, ite_false, Nat.zero_add, Nat.add_zero, Nat.sub_self, Nat.sub_zero, e2, e3, e6, e8, dLt_ii, t, hc, ht, hmv, hs]
    try rfl
  · have t : decide ((m : Int) < 2) = false := decide_eq_false (by omega)
    simp only [T_law_4, ev_fBin, ev_fUn, ev_fCons, ev_fApp, ev_fTup, ev_fLst, ev_fOfL, ev_fTest, ev_fAnd, ev_fOr, ev_fNot, ev_fAndV, ev_fOrV, ev_fNotV, ev_fIf, ev_fFrz, ev_fIter, ev_gSeq, ev_gRet, ev_gIf, ev_gSet, ev_gOwn, ev_gAsg, ev_gPar, ev_gParO, ev_gAug, ev_gApp, ev_gExt, ev_gPut, ev_gFor, ev_fSl, ev_fPart, ev_fRepL, ev_fChain, ev_run, ev_fRng1, ev_fRng2, ev_fRng3, ev_fRgL, ev_fRgT, ev_fRg1, ev_fRg2, ev_fSortSet, ev_tFrz, ev_frz_cons, ev_frz_nil, ev_var0, ev_varS, ev_C, ev_nil, ev_yes, ev_noPart, ev_next, ev_break, ev_cont, ev_no, ev_name, ev_tup2, frzC, wipeE, startE, List.length_cons, List.length_nil, List.map_cons, List.map_nil, List.replicate_succ, List.replicate_zero, List.cons_append, List.nil_append, List.getElem?_cons_zero, List.getElem?_cons_succ, List.set_cons_zero, List.set_cons_succ, Option.map_some, Option.map_none, Nat.reduceAdd, Nat.reduceSub, Nat.reduceLeDiff, if_true, ite_true, ite_false, Nat.zero_add, Nat.add_zero, Nat.sub_self, Nat.sub_zero, e6, dLt_ii, t]
    try rfl
theorem t28_3 (A : B28 n g F G) (hm : m ≤ 2) (e2 : fVar 2 ρ = some (.int n)) (e6 : fVar 6 ρ = some (.int (m : Int))) (e8 : fVar 8 ρ = some (tw (btS n (evr n) [] [g] m))) : T_law_3 ρ = some false := by
  have h7 := A.h7
  have h5 := A.h5
  by_cases q : m = 2
  · subst q
    have hl : dLen [tw (btS n (evr n) [] [g] 2)] = some (.int (rg n 2 + 1)) := by
      rw [← A.rings_two]
      show some (PyData.int (((btS n (evr n) [] [g] 2).map kT).length : Nat)) = _
      rw [List.length_map]
    have hr := m_ring A.h3 (by omega) (k := 2) (by decide)
    have hr : F_ring [.int n, .int 2] = some (.int (rg n 2)) := hr
    have e6 : fVar 6 ρ = some (.int 2) := e6
    have t : ((2 : Int) == 2) = true := rfl
    have t2 : (rg n 2 + 1 == rg n 2 + 1) = true := beq_self_eq_true _
    generalize tw (btS n (evr n) [] [g] 2) = Z at hl e8
    simp only [T_law_3, ev_fBin, ev_fUn, ev_fCons, ev_fApp, ev_fTup, ev_fLst, ev_fOfL, ev_fTest, ev_fAnd, ev_fOr, ev_fNot, ev_fAndV, ev_fOrV, ev_fNotV, ev_fIf, ev_fFrz, ev_fIter, ev_gSeq, ev_gRet, ev_gIf, ev_gSet, ev_gOwn, ev_gAsg, ev_gPar, ev_gParO, ev_gAug, ev_gApp, ev_gExt, ev_gPut, ev_gFor, ev_fSl, ev_fPart, ev_fRepL, ev_fChain, ev_run, ev_fRng1, ev_fRng2, ev_fRng3, ev_fRgL, ev_fRgT, ev_fRg1, ev_fRg2, ev_fSortSet, ev_tFrz, ev_frz_cons, ev_frz_nil, ev_var0, ev_varS, ev_C, ev_nil, ev_yes, ev_noPart, ev_next, ev_break, ev_cont, ev_no, ev_name, ev_tup2, frzC, wipeE, startE, List.length_cons, List.length_nil, List.map_cons, List.map_nil, List.replicate_succ, List.replicate_zero, List.cons_append, List.nil_append, List.getElem?_cons_zero, List.getElem?_cons_succ, List.set_cons_zero, List.set_cons_succ, Option.map_some, Option.map_none, Nat.reduceAdd, Nat.reduceSub, Nat.reduceLeDiff, if_true, ite_true, ite_false, Nat.zero_add, Nat.add_zero, Nat.sub_self, Nat.sub_zero, e2, e6, e8, dEq_ii, dNe_ii, dAdd_ii, t, hl, hr, t2]
    try rfl
  · have t : ((m : Int) == 2) = false := by rw [beq_eq_false_iff_ne]; omega
    simp only [T_law_3, ev_fBin, ev_fUn, ev_fCons, ev_fApp, ev_fTup, ev_fLst, ev_fOfL, ev_fTest, ev_fAnd, ev_fOr, ev_fNot, ev_fAndV, ev_fOrV, ev_fNotV, ev_fIf, ev_fFrz, ev_fIter, ev_gSeq, ev_gRet, ev_gIf, ev_gSet, ev_gOwn, ev_gAsg, ev_gPar, ev_gParO, ev_gAug, ev_gApp, ev_gExt, ev_gPut, ev_gFor, ev_fSl, ev_fPart, ev_fRepL, ev_fChain, ev_run, ev_fRng1, ev_fRng2, ev_fRng3, ev_fRgL, ev_fRgT, ev_fRg1, ev_fRg2, ev_fSortSet, ev_tFrz, ev_frz_cons, ev_frz_nil, ev_var0, ev_varS, ev_C, ev_nil, ev_yes, ev_noPart, ev_next, ev_break, ev_cont, ev_no, ev_name, ev_tup2, frzC, wipeE, startE, List.length_cons, List.length_nil, List.map_cons, List.map_nil, List.replicate_succ, List.replicate_zero, List.cons_append, List.nil_append, List.getElem?_cons_zero, List.getElem?_cons_succ, List.set_cons_zero, List.set_cons_succ, Option.map_some, Option.map_none, Nat.reduceAdd, Nat.reduceSub, Nat.reduceLeDiff, if_true, ite_true, ite_false, Nat.zero_add, Nat.add_zero, Nat.sub_self, Nat.sub_zero, e6, dEq_ii, t]
    try rfl
theorem l28_2 (A : B28 n g F G) (e2 : fVar 2 ρ = some (.int n)) (e4 : fVar 4 ρ = some (kT g)) : L_law_2 ρ = .nx (ρ.set 9 (some (.dat (tw (btS n [1] [] [g] 2))))) := by
  have hb := A.beats (r0 := [1]) (r1 := []) (m := 2) (by decide)
  have tg : tw [g] = .tuple [kT g] := rfl
  have t0 : kT [] = PyData.tuple [] := rfl
  have t1 : kT [1] = PyData.tuple [.int 1] := rfl
  have t2 : ((2 : Nat) : Int) = 2 := rfl
  rw [tg, t0, t1, t2] at hb
  generalize tw (btS n [1] [] [g] 2) = Z at hb ⊢
  simp only [L_law_2, ev_fBin, ev_fUn, ev_fCons, ev_fApp, ev_fTup, ev_fLst, ev_fOfL, ev_fTest, ev_fAnd, ev_fOr, ev_fNot, ev_fAndV, ev_fOrV, ev_fNotV, ev_fIf, ev_fFrz, ev_fIter, ev_gSeq, ev_gRet, ev_gIf, ev_gSet, ev_gOwn, ev_gAsg, ev_gPar, ev_gParO, ev_gAug, ev_gApp, ev_gExt, ev_gPut, ev_gFor, ev_fSl, ev_fPart, ev_fRepL, ev_fChain, ev_run, ev_fRng1, ev_fRng2, ev_fRng3, ev_fRgL, ev_fRgT, ev_fRg1, ev_fRg2, ev_fSortSet, ev_tFrz, ev_frz_cons, ev_frz_nil, ev_var0, ev_varS, ev_C, ev_nil, ev_yes, ev_noPart, ev_next, ev_break, ev_cont, ev_no, ev_name, ev_tup2, frzC, wipeE, startE, List.length_cons, List.length_nil, List.map_cons, List.map_nil, List.replicate_succ, List.replicate_zero, List.cons_append, List.nil_append, List.getElem?_cons_zero, List.getElem?_cons_succ, List.set_cons_zero, List.set_cons_succ, Option.map_some, Option.map_none, Nat.reduceAdd, Nat.reduceSub, Nat.reduceLeDiff, if_true, ite_true, ite_false, Nat.zero_add, Nat.add_zero, Nat.sub_self, Nat.sub_zero, e2, e4, hb, Nat.zero_le]
theorem t28_2 (A : B28 n g F G) (e2 : fVar 2 ρ = some (.int n)) (e4 : fVar 4 ρ = some (kT g)) (e9 : fVar 9 ρ = some (tw (btS n [1] [] [g] 2))) : T_law_2 ρ = some false := by
  have h7 := A.h7
  have h5 := A.h5
  obtain ⟨q1, q2⟩ := A.lone
  have hb := A.beats (r0 := [2]) (r1 := []) (m := 1) (by decide)
  rw [q2] at hb
  have tg : tw [g] = .tuple [kT g] := rfl
  have t0 : kT [] = PyData.tuple [] := rfl
  have t1 : kT [2] = PyData.tuple [.int 2] := rfl
  have t2 : ((1 : Nat) : Int) = 1 := rfl
  rw [tg, t0, t1, t2] at hb
  have hl : dLen [tw (btS n [1] [] [g] 2)] = some (.int (n * (n - 3))) := by
    rw [← q1]
    show some (PyData.int (((btS n [1] [] [g] 2).map kT).length : Nat)) = _
    rw [List.length_map]
  have hl0 : dLen [tw []] = some (.int 0) := rfl
  have hmul : dMul (.int n) (.int (n - 3)) = some (.int (n * (n - 3))) := dMul_s (small_of (by omega) (by omega))
  have b1 : (n * (n - 3) == n * (n - 3)) = true := beq_self_eq_true _
  have b0 : ((0 : Int) == 0) = true := rfl
  generalize tw (btS n [1] [] [g] 2) = Z at hl e9
  generalize tw [] = Z0 at hb hl0
  simp only [T_law_2, ev_fBin, ev_fUn, ev_fCons, ev_fApp, ev_fTup, ev_fLst, ev_fOfL, ev_fTest, ev_fAnd, ev_fOr, ev_fNot, ev_fAndV, ev_fOrV, ev_fNotV, ev_fIf, ev_fFrz, ev_fIter, ev_gSeq, ev_gRet, ev_gIf, ev_gSet, ev_gOwn, ev_gAsg, ev_gPar, ev_gParO, ev_gAug, ev_gApp, ev_gExt, ev_gPut, ev_gFor, ev_fSl, ev_fPart, ev_fRepL, ev_fChain, ev_run, ev_fRng1, ev_fRng2, ev_fRng3, ev_fRgL, ev_fRgT, ev_fRg1, ev_fRg2, ev_fSortSet, ev_tFrz, ev_frz_cons, ev_frz_nil, ev_var0, ev_varS, ev_C, ev_nil, ev_yes, ev_noPart, ev_next, ev_break, ev_cont, ev_no, ev_name, ev_tup2, frzC, wipeE, startE, List.length_cons, List.length_nil, List.map_cons, List.map_nil, List.replicate_succ, List.replicate_zero, List.cons_append, List.nil_append, List.getElem?_cons_zero, List.getElem?_cons_succ, List.set_cons_zero, List.set_cons_succ, Option.map_some, Option.map_none, Nat.reduceAdd, Nat.reduceSub, Nat.reduceLeDiff, if_true, ite_true, ite_false, Nat.zero_add, Nat.add_zero, Nat.sub_self, Nat.sub_zero, e2, e4, e9, dSub_ii, hmul, dNe_ii, hl, b1, hb, hl0, b0, Nat.zero_le, Bool.not_true]
  try rfl
theorem l28_1 (A : B28 n g F G) (e2 : fVar 2 ρ = some (.int n)) (e3 : fVar 3 ρ = some (mo n g F)) : L_law_1 ρ = .nx (ρ.set 10 (some (.dat (tw (btS n [2] [] (sortRows (mvL n g F (cells n 1))) 1))))) := by
  have hb := A.two.1
  have hc := m_cells_at A.mach (k := 1) (by decide)
  have hmv := A.moved_cells (m := 1) (by decide)
  have t0 : kT [] = PyData.tuple [] := rfl
  have t1 : kT [2] = PyData.tuple [.int 2] := rfl
  have t2 : ((1 : Nat) : Int) = 1 := rfl
  have ht : dTuple [.list ((cells n 1).map kT)] = some (tw (cells n 1)) := rfl
  rw [t0, t1] at hb
  rw [t2] at hc
  generalize tw (btS n [2] [] (sortRows (mvL n g F (cells n 1))) 1) = Z at hb ⊢
  generalize tw (sortRows (mvL n g F (cells n 1))) = Z1 at hb hmv
  generalize tw (cells n 1) = Z2 at hmv ht
  generalize (cells n 1).map kT = Z3 at hc ht
  generalize mo n g F = M at e3 hmv
  simp only [L_law_1, ev_fBin, ev_fUn, ev_fCons, ev_fApp, ev_fTup, ev_fLst, ev_fOfL, ev_fTest, ev_fAnd, ev_fOr, ev_fNot, ev_fAndV, ev_fOrV, ev_fNotV, ev_fIf, ev_fFrz, ev_fIter, ev_gSeq, ev_gRet, ev_gIf, ev_gSet, ev_gOwn, ev_gAsg, ev_gPar, ev_gParO, ev_gAug, ev_gApp, ev_gExt, ev_gPut, ev_gFor, ev_fSl, ev_fPart, ev_fRepL, ev_fChain, ev_run, ev_fRng1, ev_fRng2, ev_fRng3, ev_fRgL, ev_fRgT, ev_fRg1, ev_fRg2, ev_fSortSet, ev_tFrz, ev_frz_cons, ev_frz_nil, ev_var0, ev_varS, ev_C, ev_nil, ev_yes, ev_noPart, ev_next, ev_break, ev_cont, ev_no, ev_name, ev_tup2, frzC, wipeE, startE, List.length_cons, List.length_nil, List.map_cons, List.map_nil, List.replicate_succ, List.replicate_zero, List.cons_append, List.nil_append, List.getElem?_cons_zero, List.getElem?_cons_succ, List.set_cons_zero, List.set_cons_succ, Option.map_some, Option.map_none, Nat.reduceAdd, Nat.reduceSub, Nat.reduceLeDiff, if_true, ite_true, ite_false, Nat.zero_add, Nat.add_zero, Nat.sub_self, Nat.sub_zero, e2, e3, hc, ht, hmv, hb, Nat.zero_le]
theorem t28_1 (A : B28 n g F G) (e2 : fVar 2 ρ = some (.int n)) (e10 : fVar 10 ρ = some (tw (btS n [2] [] (sortRows (mvL n g F (cells n 1))) 1))) : T_law_1 ρ = some false := by
  have hl : dLen [tw (btS n [2] [] (sortRows (mvL n g F (cells n 1))) 1)] = some (.int n) := by
    show some (PyData.int (((btS n [2] [] (sortRows (mvL n g F (cells n 1))) 1).map kT).length : Nat)) = _
    rw [List.length_map, A.two.2]
  have b1 : (n == n) = true := beq_self_eq_true _
  generalize tw (btS n [2] [] (sortRows (mvL n g F (cells n 1))) 1) = Z at hl e10
  simp only [T_law_1, ev_fBin, ev_fUn, ev_fCons, ev_fApp, ev_fTup, ev_fLst, ev_fOfL, ev_fTest, ev_fAnd, ev_fOr, ev_fNot, ev_fAndV, ev_fOrV, ev_fNotV, ev_fIf, ev_fFrz, ev_fIter, ev_gSeq, ev_gRet, ev_gIf, ev_gSet, ev_gOwn, ev_gAsg, ev_gPar, ev_gParO, ev_gAug, ev_gApp, ev_gExt, ev_gPut, ev_gFor, ev_fSl, ev_fPart, ev_fRepL, ev_fChain, ev_run, ev_fRng1, ev_fRng2, ev_fRng3, ev_fRgL, ev_fRgT, ev_fRg1, ev_fRg2, ev_fSortSet, ev_tFrz, ev_frz_cons, ev_frz_nil, ev_var0, ev_varS, ev_C, ev_nil, ev_yes, ev_noPart, ev_next, ev_break, ev_cont, ev_no, ev_name, ev_tup2, frzC, wipeE, startE, List.length_cons, List.length_nil, List.map_cons, List.map_nil, List.replicate_succ, List.replicate_zero, List.cons_append, List.nil_append, List.getElem?_cons_zero, List.getElem?_cons_succ, List.set_cons_zero, List.set_cons_succ, Option.map_some, Option.map_none, Nat.reduceAdd, Nat.reduceSub, Nat.reduceLeDiff, if_true, ite_true, ite_false, Nat.zero_add, Nat.add_zero, Nat.sub_self, Nat.sub_zero, e2, e10, hl, dNe_ii, b1]
  try rfl
theorem crs_apart (A : B28 n g F G) (hs : 0 ≤ s ∧ s < n) : g ≠ crs n g s := fun e => by
  have h1 := act_crs A.h3 A.ng hs
  rw [← e] at h1
  have h2 : act n (g ++ []) = act n (g ++ [s]) := by rw [List.append_nil]; exact h1
  have h4 := NF.ext A.h3 (nf_nil (n := n)) (Wl.single A.h3 hs).nfm (act_cancel h2)
  cases h4
theorem l28_0 (A : B28 n g F G) (hs : 0 ≤ s ∧ s < n) (e2 : fVar 2 ρ = some (.int n)) (e4 : fVar 4 ρ = some (kT g)) (e11 : fVar 11 ρ = some (.int s)) : L_law_0 ρ = .nx (ρ.set 12 (some (.dat (tw (pair2 n g s))))) := by
  have h7 := A.h7
  have h5 := A.h5
  have lg := A.lg
  have hin := inR_append A.ng.ir (inR_one.mpr hs)
  have hf := m_law_form A.h3 (by omega) hin (by rw [List.length_append, List.length_singleton]; omega)
  have ee : nf n (g ++ [s]) = crs n g s := NF.ext A.h3 (nf_nf A.h3 hin) (NF.crs A.h3 A.ng hs) (by rw [act_nf A.h3 hin, act_crs A.h3 A.ng hs])
  rw [ee] at hf
  have ad : dAdd (kT g) (.tuple [.int s]) = some (kT (g ++ [s])) := dAdd_k (u := g) (w := [s]) (by rw [List.length_singleton]; omega)
  have hd : dSorted [.list [kT g, kT (crs n g s)]] = some (.list ((pair2 n g s).map kT)) := by
    have := dSorted_l (ws := [g, crs n g s])
    have dd : dedup [g, crs n g s] = [g, crs n g s] := by
      have hne := crs_apart A hs
      have c1 : ([crs n g s] : List Wrd).contains g = false := by simpa using hne
      have c2 : ([] : List Wrd).contains (crs n g s) = false := rfl
      unfold dedup
      rw [if_neg (by rw [c1]; decide)]
      unfold dedup
      rw [if_neg (by rw [c2]; decide)]
      rfl
    have : dSorted [.list [kT g, kT (crs n g s)]] = some (.list (([g, crs n g s].mergeSort leK).map kT)) := this
    rw [this]
    unfold pair2 sortRows
    rw [dd]
  have ht : dTuple [.list ((pair2 n g s).map kT)] = some (tw (pair2 n g s)) := rfl
  generalize tw (pair2 n g s) = Z at ht ⊢
  generalize (pair2 n g s).map kT = Z1 at ht hd
  simp only [L_law_0, ev_fBin, ev_fUn, ev_fCons, ev_fApp, ev_fTup, ev_fLst, ev_fOfL, ev_fTest, ev_fAnd, ev_fOr, ev_fNot, ev_fAndV, ev_fOrV, ev_fNotV, ev_fIf, ev_fFrz, ev_fIter, ev_gSeq, ev_gRet, ev_gIf, ev_gSet, ev_gOwn, ev_gAsg, ev_gPar, ev_gParO, ev_gAug, ev_gApp, ev_gExt, ev_gPut, ev_gFor, ev_fSl, ev_fPart, ev_fRepL, ev_fChain, ev_run, ev_fRng1, ev_fRng2, ev_fRng3, ev_fRgL, ev_fRgT, ev_fRg1, ev_fRg2, ev_fSortSet, ev_tFrz, ev_frz_cons, ev_frz_nil, ev_var0, ev_varS, ev_C, ev_nil, ev_yes, ev_noPart, ev_next, ev_break, ev_cont, ev_no, ev_name, ev_tup2, frzC, wipeE, startE, List.length_cons, List.length_nil, List.map_cons, List.map_nil, List.replicate_succ, List.replicate_zero, List.cons_append, List.nil_append, List.getElem?_cons_zero, List.getElem?_cons_succ, List.set_cons_zero, List.set_cons_succ, Option.map_some, Option.map_none, Nat.reduceAdd, Nat.reduceSub, Nat.reduceLeDiff, if_true, ite_true, ite_false, Nat.zero_add, Nat.add_zero, Nat.sub_self, Nat.sub_zero, e2, e4, e11, ad, hf, hd, ht]
theorem t28_0 (A : B28 n g F G) (hs : 0 ≤ s ∧ s < n) (e2 : fVar 2 ρ = some (.int n)) (e4 : fVar 4 ρ = some (kT g)) (e12 : fVar 12 ρ = some (tw (pair2 n g s))) : T_law_0 ρ = some false := by
  have t3 : kT [3] = PyData.tuple [.int 3] := rfl
  have t1 : kT [1] = PyData.tuple [.int 1] := rfl
  have tg : tw [g] = PyData.tuple [kT g] := rfl
  have te : tw [] = PyData.tuple [] := rfl
  have h1 := A.pair_stays hs
  have h2 : F_fate [.int n, .tuple [kT [3], kT [1]], tw (pair2 n g s), .int 3] = some (.tuple [.int 0, .int 1]) := fate_one (k := 2) (by decide) h1
  have h4 : F_fate [.int n, .tuple [kT [3], kT [1]], tw [g], .int 3] = some (.tuple [.int 1, .int 1]) := fate_two A.gone.1 A.gone.2 (by simp)
  have h5 := A.gone.1
  rw [t3, t1] at h1 h2 h4 h5
  rw [tg] at h4 h5
  rw [te] at h5
  obtain ⟨g1, g2⟩ := good_tw (A := pair2 n g s) (by have := pair_len (n := n) (s := s) (g := g); omega) (fun w hw => by have := (A.pairTwn hs).len w hw; omega)
  have hsame : F__law_same 8 [.list [tw (pair2 n g s), .tuple [.int 0, .int 1], .tuple [.int 1, .int 1], .tuple []], .list [tw (pair2 n g s), .tuple [.int 0, .int 1], .tuple [.int 1, .int 1], .tuple []]] = some (.bool true) := by
    refine same_list (by show 4 ≤ 1000; decide) ?_ ?_
    · show (good (tw (pair2 n g s)) && _) = true
      rw [g1]
      decide
    · show max (dep (tw (pair2 n g s))) _ ≤ 5
      refine Nat.max_le.mpr ⟨by omega, by decide⟩
  generalize tw (pair2 n g s) = Z at h1 h2 hsame e12
  simp only [T_law_0, ev_fBin, ev_fUn, ev_fCons, ev_fApp, ev_fTup, ev_fLst, ev_fOfL, ev_fTest, ev_fAnd, ev_fOr, ev_fNot, ev_fAndV, ev_fOrV, ev_fNotV, ev_fIf, ev_fFrz, ev_fIter, ev_gSeq, ev_gRet, ev_gIf, ev_gSet, ev_gOwn, ev_gAsg, ev_gPar, ev_gParO, ev_gAug, ev_gApp, ev_gExt, ev_gPut, ev_gFor, ev_fSl, ev_fPart, ev_fRepL, ev_fChain, ev_run, ev_fRng1, ev_fRng2, ev_fRng3, ev_fRgL, ev_fRgT, ev_fRg1, ev_fRg2, ev_fSortSet, ev_tFrz, ev_frz_cons, ev_frz_nil, ev_var0, ev_varS, ev_C, ev_nil, ev_yes, ev_noPart, ev_next, ev_break, ev_cont, ev_no, ev_name, ev_tup2, frzC, wipeE, startE, List.length_cons, List.length_nil, List.map_cons, List.map_nil, List.replicate_succ, List.replicate_zero, List.cons_append, List.nil_append, List.getElem?_cons_zero, List.getElem?_cons_succ, List.set_cons_zero, List.set_cons_succ, Option.map_some, Option.map_none, Nat.reduceAdd, Nat.reduceSub, Nat.reduceLeDiff, if_true, ite_true, ite_false, Nat.zero_add, Nat.add_zero, Nat.sub_self, Nat.sub_zero, e2, e4, e12, h1, h2, h4, h5, hsame, Nat.zero_le, Nat.reduceLeDiff]
  try rfl
theorem r28 (A : B28 n g F G) (e2 : fVar 2 ρ = some (.int n)) (e4 : fVar 4 ρ = some (kT g)) (e5 : fVar 5 ρ = some (kT (evr n))) :
    fApp (F__law_same 8) (fCons (fApp F_fate (fCons (fVar 2) (fCons (fTup (fCons (fVar 5) (fCons (fRgT (fRg1 (fBin dAdd (fVar 2) (fC (.int 1))))) fNil))) (fCons (fTup (fCons (fVar 4) fNil)) (fCons (fC (.int 2)) fNil))))) (fCons (fC .none) fNil)) ρ = some (.bool true) := by
  have h7 := A.h7
  have h5 := A.h5
  have hf := A.none
  have tg : tw [g] = PyData.tuple [kT g] := rfl
  rw [tg] at hf
  have kn : okRg 0 (n + 1) = true := okRg_of (by omega) (by omega)
  have e := rng_al (n := n)
  have s0 : (n + 1 - 0).toNat = (n + 1).toNat := by rw [Int.sub_zero]
  have hs : F__law_same 8 [.none, .none] = some (.bool true) := m_same 8 .none rfl (by decide)
  simp only [ev_fBin, ev_fUn, ev_fCons, ev_fApp, ev_fTup, ev_fLst, ev_fOfL, ev_fTest, ev_fAnd, ev_fOr, ev_fNot, ev_fAndV, ev_fOrV, ev_fNotV, ev_fIf, ev_fFrz, ev_fIter, ev_gSeq, ev_gRet, ev_gIf, ev_gSet, ev_gOwn, ev_gAsg, ev_gPar, ev_gParO, ev_gAug, ev_gApp, ev_gExt, ev_gPut, ev_gFor, ev_fSl, ev_fPart, ev_fRepL, ev_fChain, ev_run, ev_fRng1, ev_fRng2, ev_fRng3, ev_fRgL, ev_fRgT, ev_fRg1, ev_fRg2, ev_fSortSet, ev_tFrz, ev_frz_cons, ev_frz_nil, ev_var0, ev_varS, ev_C, ev_nil, ev_yes, ev_noPart, ev_next, ev_break, ev_cont, ev_no, ev_name, ev_tup2, frzC, wipeE, startE, List.length_cons, List.length_nil, List.map_cons, List.map_nil, List.replicate_succ, List.replicate_zero, List.cons_append, List.nil_append, List.getElem?_cons_zero, List.getElem?_cons_succ, List.set_cons_zero, List.set_cons_succ, Option.map_some, Option.map_none, Nat.reduceAdd, Nat.reduceSub, Nat.reduceLeDiff, if_true, ite_true, ite_false, Nat.zero_add, Nat.add_zero, Nat.sub_self, Nat.sub_zero, e2, e4, e5, dAdd_ii, kn, s0, e, hf, hs]
end
theorem chain28 {T0 T1 T2 T3 T4 T5 : FT} {L0 L1 L2 L3 L4 : FS} {E : F1} {n : Int} {g : Wrd} {m MM V Z7 Z8 Z9 Z10 : D} {p : Addr} {pds : List D} {P : OutW → Prop} (h0 : 0 < n) (h7 : n ≤ 7) (po : PoolOk pds) {c7 c8 c9 c10 c11 c12 : Option Cell} (hP : ∀ ρ', P (.rt (.bool true) ρ'))
    (k4 : ∀ ρ : Env, fVar 2 ρ = some (.int n) → fVar 4 ρ = some (kT g) → fVar 5 ρ = some V → fVar 6 ρ = some m → L4 ρ = .nx (ρ.set 7 (some (.dat Z7))))
    (t5 : ∀ ρ : Env, fVar 2 ρ = some (.int n) → fVar 3 ρ = some MM → fVar 6 ρ = some m → fVar 7 ρ = some Z7 → T5 ρ = some false)
    (k3 : ∀ ρ : Env, fVar 2 ρ = some (.int n) → fVar 4 ρ = some (kT g) → fVar 5 ρ = some V → fVar 6 ρ = some m → L3 ρ = .nx (ρ.set 8 (some (.dat Z8))))
    (t4 : ∀ ρ : Env, fVar 2 ρ = some (.int n) → fVar 3 ρ = some MM → fVar 6 ρ = some m → fVar 8 ρ = some Z8 → T4 ρ = some false)
    (t3 : ∀ ρ : Env, fVar 2 ρ = some (.int n) → fVar 6 ρ = some m → fVar 8 ρ = some Z8 → T3 ρ = some false)
    (k2 : ∀ ρ : Env, fVar 2 ρ = some (.int n) → fVar 4 ρ = some (kT g) → L2 ρ = .nx (ρ.set 9 (some (.dat Z9))))
    (t2 : ∀ ρ : Env, fVar 2 ρ = some (.int n) → fVar 4 ρ = some (kT g) → fVar 9 ρ = some Z9 → T2 ρ = some false)
    (k1 : ∀ ρ : Env, fVar 2 ρ = some (.int n) → fVar 3 ρ = some MM → L1 ρ = .nx (ρ.set 10 (some (.dat Z10))))
    (t1 : ∀ ρ : Env, fVar 2 ρ = some (.int n) → fVar 10 ρ = some Z10 → T1 ρ = some false)
    (k0 : ∀ s : Int, 0 ≤ s ∧ s < n → ∃ Z, (∀ ρ : Env, fVar 2 ρ = some (.int n) → fVar 4 ρ = some (kT g) → fVar 11 ρ = some (.int s) → L0 ρ = .nx (ρ.set 12 (some (.dat Z)))) ∧ ∀ ρ : Env, fVar 2 ρ = some (.int n) → fVar 4 ρ = some (kT g) → fVar 12 ρ = some Z → T0 ρ = some false)
    (r0 : ∀ ρ : Env, fVar 2 ρ = some (.int n) → fVar 4 ρ = some (kT g) → fVar 5 ρ = some V → E ρ = some (.bool true)) :
    (wSeq (wLift L4) (wSeq (wIf T5 (wRet (wL (fC (.bool false)))) wNx) (wSeq (wLift L3) (wSeq (wIf T4 (wRet (wL (fC (.bool false)))) wNx) (wSeq (wIf T3 (wRet (wL (fC (.bool false)))) wNx) (wSeq (wLift L2) (wSeq (wIf T2 (wRet (wL (fC (.bool false)))) wNx) (wSeq (wLift L1) (wSeq (wIf T1 (wRet (wL (fC (.bool false)))) wNx)
      (wSeq (wSet 11 (wPool 1 R__law_draw (fCons (fVar 2) fNil))) (wSeq (wLift L0) (wSeq (wIf T0 (wRet (wL (fC (.bool false)))) wNx) (wRet (wL E)))))))))))))) [none, some (.pin p pds), some (.dat (.int n)), some (.dat MM), some (.dat (kT g)), some (.dat V), some (.dat m), c7, c8, c9, c10, c11, c12] P := by
  refine wSeq_lift (k4 _ rfl rfl rfl rfl) ?_
  refine w_pass_seq (t5 _ rfl rfl rfl rfl) ?_
  refine wSeq_lift (k3 _ rfl rfl rfl rfl) ?_
  refine w_pass_seq (t4 _ rfl rfl rfl rfl) ?_
  refine w_pass_seq (t3 _ rfl rfl rfl) ?_
  refine wSeq_lift (k2 _ rfl rfl) ?_
  refine w_pass_seq (t2 _ rfl rfl rfl) ?_
  refine wSeq_lift (k1 _ rfl rfl) ?_
  refine w_pass_seq (t1 _ rfl rfl) ?_
  refine w_seq (w_set (w_draw (m := n) rfl po rfl (by omega) (by omega) fun s pds5 s0 s1 po5 => ?_))
  obtain ⟨Z12, k0, t0⟩ := k0 s ⟨s0, s1⟩
  refine wSeq_lift (k0 _ rfl rfl rfl) ?_
  refine w_pass_seq (t0 _ rfl rfl rfl) ?_
  exact w_ret (w_lift (r0 _ rfl rfl rfl) (hP _))
theorem hw_law : ∀ (p : Addr) (es : List D), PoolOk es → W_law (startL 11 p es) fun o => ∃ ρ', o = .rt (.bool true) ρ' := by
  intro p es po
  refine w_seq (w_set (w_bin (w_lift rfl (w_draw (m := 3) rfl po rfl (by decide) (by decide) fun r pds1 r0 r1 po1 => ⟨_, rfl, ?_⟩))))
  have h5 : 5 ≤ 5 + r := by omega
  have h7 : 5 + r ≤ 7 := by omega
  generalize 5 + r = n at h5 h7
  have h3 : 3 ≤ n := by omega
  refine w_seq (w_set (w_tup (w_cons (w_cell (n := n) (m := 3) rfl po1 rfl h3 (by omega) (by decide) (by decide) fun g pds2 hg hgl po2 => w_cons (w_pick (xs := (turnsL n).map kT) rfl po2 (.inl ?_) ?_ ?_ fun x pds3 hx po3 => w_liftA rfl ⟨two_le, ?_⟩)))))
  · have e := m_turns h3 (by omega)
    show (fCons (fApp F_turns (fCons (fVar 2) fNil)) fNil) [none, some (.pin p pds2), some (.dat (.int n)), none, none, none, none, none, none, none, none, none, none] = _
    generalize (turnsL n).map kT = Z at e
    simp only [ev_fBin, ev_fUn, ev_fCons, ev_fApp, ev_fTup, ev_fLst, ev_fOfL, ev_fTest, ev_fAnd, ev_fOr, ev_fNot, ev_fAndV, ev_fOrV, ev_fNotV, ev_fIf, ev_fFrz, ev_fIter, ev_gSeq, ev_gRet, ev_gIf, ev_gSet, ev_gOwn, ev_gAsg, ev_gPar, ev_gParO, ev_gAug, ev_gApp, ev_gExt, ev_gPut, ev_gFor, ev_fSl, ev_fPart, ev_fRepL, ev_fChain, ev_run, ev_fRng1, ev_fRng2, ev_fRng3, ev_fRgL, ev_fRgT, ev_fRg1, ev_fRg2, ev_fSortSet, ev_tFrz, ev_frz_cons, ev_frz_nil, ev_var0, ev_varS, ev_C, ev_nil, ev_yes, ev_noPart, ev_next, ev_break, ev_cont, ev_no, ev_name, ev_tup2, frzC, wipeE, startE, List.length_cons, List.length_nil, List.map_cons, List.map_nil, List.replicate_succ, List.replicate_zero, List.cons_append, List.nil_append, List.getElem?_cons_zero, List.getElem?_cons_succ, List.set_cons_zero, List.set_cons_succ, Option.map_some, Option.map_none, Nat.reduceAdd, Nat.reduceSub, Nat.reduceLeDiff, if_true, ite_true, ite_false, Nat.zero_add, Nat.add_zero, Nat.sub_self, Nat.sub_zero, e]
  · rw [List.length_map, turnsL_len]; omega
  · rw [List.length_map, turnsL_len]; omega
  obtain ⟨w, hw, rfl⟩ := List.mem_map.mp hx
  obtain ⟨F, G, T, ew⟩ := mem_turnsL h3 hw
  subst ew
  have A : B28 n g F G := ⟨h5, h7, T, hg, by omega⟩
  refine wSeq_lift (l28_6 (n := n) (g := g) (F := F) rfl) ?_
  refine wSeq_lift (l28_5 (n := n) (by omega) (by omega) rfl) ?_
  refine w_seq (w_set (w_draw (m := 3) rfl po3 rfl (by decide) (by decide) fun r2 pds4 r20 r21 po4 => ?_))
  obtain ⟨m, rfl⟩ : ∃ m : Nat, r2 = (m : Int) := ⟨r2.toNat, by omega⟩
  have hm : m ≤ 2 := by omega
  have hl := A.h7
  refine chain28 (T0 := T_law_0) (T1 := T_law_1) (T2 := T_law_2) (T3 := T_law_3) (T4 := T_law_4) (T5 := T_law_5) (L0 := L_law_0) (L1 := L_law_1) (L2 := L_law_2) (L3 := L_law_3) (L4 := L_law_4) (n := n) (g := g) (m := .int (m : Int)) (MM := mo n g F) (V := kT (evr n)) (p := p) (pds := pds4)
    (Z7 := tw (btS n (evr n) (alr n) [g] m)) (Z8 := tw (btS n (evr n) [] [g] m)) (Z9 := tw (btS n [1] [] [g] 2)) (Z10 := tw (btS n [2] [] (sortRows (mvL n g F (cells n 1))) 1)) (by omega) (by omega) po4 (fun ρ' => ⟨_, rfl⟩) ?_ ?_ ?_ ?_ ?_ ?_ ?_ ?_ ?_ ?_ ?_
  · exact fun ρ a b c d => l28_4 A hm a b c d
  · exact fun ρ a b c d => t28_5 A hm a b c d
  · exact fun ρ a b c d => l28_3 A hm a b c d
  · exact fun ρ a b c d => t28_4 A hm a b c d
  · exact fun ρ a b c => t28_3 A hm a b c
  · exact fun ρ a b => l28_2 A a b
  · exact fun ρ a b c => t28_2 A a b c
  · exact fun ρ a b => l28_1 A a b
  · exact fun ρ a b => t28_1 A a b
  · exact fun s hs => ⟨_, fun ρ a b c => l28_0 A hs a b c, fun ρ a b c => t28_0 A hs a b c⟩
  · exact fun ρ a b c => r28 A a b c
end Wd

set_option Elab.async false
set_option linter.all false
set_option maxRecDepth 100000
set_option maxHeartbeats 4000000
set_option autoImplicit false
namespace Wd
open PySem PyProof.Rows L2
section
variable {P : Program} {w : World} {K : PySem.W.Frag} {mg : Str → Option Value} {base : Heap}
def topS (i : Nat) : Stmt := PySem.Challenge.pw_widecells_k28_whole_beats_that_begin_wit.main.body.getD i (.Pass ⟨0, 0, 0, 0⟩)
abbrev s_meet : Stmt := topS 1
theorem sc_meet : FnScope ["sides", "one", "two"] ["sides", "one", "two"] (defScope s_meet) := ⟨rfl, rfl, rfl, by decide +kernel, rfl, by decide +kernel, by decide +kernel⟩
theorem ok_meet (T : Bt mg)  {f : Addr} {fd : FuncData} (F : Fun K "meet" "meet" s_meet f fd) (gm : mg "meet" = some (.ref f)) (b : Binds K fd ["sides", "one", "two"] []) : Cal P w K mg base "meet" 1 F_meet :=
  cal_of F sc_meet gm b fun cdv A outer s H E hr => ⟨_, (css_one (cs_ret (ce_cmp (op_inSK (K := K) rfl (units65 hr)) rd_in (ce_op op_mod rd_mod (ce_op op_sub rd_sub (ce_var 1) (ce_var 2)) (ce_var 0)) (ce_tup (ca_cons ce_int (ca_cons (ce_op op_sub rd_sub (ce_var 0) ce_int) ca_nil))))))⟩
abbrev s_first_sides : Stmt := topS 2
theorem sc_first_sides : FnScope ["sides", "word", "found", "k", "j"] ["sides", "word"] (defScope s_first_sides) := ⟨rfl, rfl, rfl, by decide +kernel, rfl, by decide +kernel, by decide +kernel⟩
theorem ok_first_sides (T : Bt mg) (C_meet : Cal P w K mg base "meet" 1 F_meet) {f : Addr} {fd : FuncData} (F : Fun K "first_sides" "first_sides" s_first_sides f fd) (gm : mg "first_sides" = some (.ref f)) (b : Binds K fd ["sides", "word"] []) : Cal P w K mg base "first_sides" 2 F_first_sides :=
  cal_of F sc_first_sides gm b fun cdv A outer s H E hr => ⟨_, (css_cons (cs_own sc_first_sides.nd (cl_lst ca_nil)) (css_cons (cs_for rfl PassesOwn.never (ci_range1 rfl T.range (ca_cons (ce_lenK (K := K) rfl T (ca_cons (ce_var 1) ca_nil)) ca_nil)) (cg_name sc_first_sides.nd) (css_one (cs_if (ct_val (ce_all1K (K := K) rfl T rfl (ca_cons (Cl.ce (cl_lc (own := [("j", 4)]) rfl sc_first_sides.nd (ci_range1 rfl T.range (ca_cons (ce_var 3) ca_nil)) (blkOk_by (by kernel_rfl)) (fun _ _ _ _ _ => (cg_name sc_first_sides.nd)) gw_name (fun _ _ _ _ _ => cts_nil) (fun _ _ _ _ _ => (ce_callC C_meet hr (ca_cons (ce_var 0) (ca_cons (ce_ix (ix_seqK (K := K) rfl) rd_ix (ce_var 1) (ce_var 4)) (ca_cons (ce_ix (ix_seqK (K := K) rfl) rd_ix (ce_var 1) (ce_var 3)) ca_nil))))))) ca_nil))) (css_one (cs_append (ce_var 3))) css_nil))) (css_one (cs_ret (ce_var 2)))))⟩
abbrev s_in_form : Stmt := topS 3
theorem sc_in_form : FnScope ["sides", "word", "found", "place", "k"] ["sides", "word"] (defScope s_in_form) := ⟨rfl, rfl, rfl, by decide +kernel, rfl, by decide +kernel, by decide +kernel⟩
theorem ok_in_form (T : Bt mg) (C_first_sides : Cal P w K mg base "first_sides" 2 F_first_sides) {f : Addr} {fd : FuncData} (F : Fun K "in_form" "in_form" s_in_form f fd) (gm : mg "in_form" = some (.ref f)) (b : Binds K fd ["sides", "word"] []) : Cal P w K mg base "in_form" 3 F_in_form :=
  cal_of F sc_in_form gm b fun cdv A outer s H E hr => ⟨_, (css_cons (cs_set sc_in_form.nd (ce_tup ca_nil)) (css_cons (cs_while 100000 PassesOwn.never (ct_cmp op_gt rd_cmpI (ce_lenK (K := K) rfl T (ca_cons (ce_var 1) ca_nil)) ce_int) (css_cons (cs_set sc_in_form.nd (ce_ix (ix_seqK (K := K) rfl) rd_ix (ce_min1K (K := K) rfl T hr rfl (ca_cons (Cl.ce (cl_lc (own := [("k", 4)]) rfl sc_in_form.nd (ci_seqK (K := K) rfl (ce_callC C_first_sides hr (ca_cons (ce_var 0) (ca_cons (ce_var 1) ca_nil)))) (blkOk_by (by kernel_rfl)) (fun _ _ _ _ _ => (cg_name sc_in_form.nd)) gw_name (fun _ _ _ _ _ => cts_nil) (fun _ _ _ _ _ => (ce_tup (ca_cons (ce_ix (ix_seqK (K := K) rfl) rd_ix (ce_var 1) (ce_var 4)) (ca_cons (ce_var 4) ca_nil)))))) ca_nil)) ce_int)) (css_cons (cs_aug sc_in_form.nd (ip_plusK (K := K) rfl) rd_plusI (ce_tup (ca_cons (ce_ix (ix_seqK (K := K) rfl) rd_ix (ce_var 1) (ce_var 3)) ca_nil))) (css_one (cs_set sc_in_form.nd (ce_op (op_plusK (K := K) rfl) rd_plus (ce_slK (K := K) rfl (ce_var 1) co_none (co_some (ce_var 3))) (ce_slK (K := K) rfl (ce_var 1) (co_some (ce_op (op_plusK (K := K) rfl) rd_plus (ce_var 3) ce_int)) co_none))))))) (css_one (cs_ret (ce_var 2)))))⟩
abbrev s_crossed : Stmt := topS 4
theorem sc_crossed : FnScope ["sides", "cell", "side", "k"] ["sides", "cell", "side"] (defScope s_crossed) := ⟨rfl, rfl, rfl, by decide +kernel, rfl, by decide +kernel, by decide +kernel⟩
theorem ok_crossed (T : Bt mg) (C_in_form : Cal P w K mg base "in_form" 3 F_in_form) (C_meet : Cal P w K mg base "meet" 1 F_meet) {f : Addr} {fd : FuncData} (F : Fun K "crossed" "crossed" s_crossed f fd) (gm : mg "crossed" = some (.ref f)) (b : Binds K fd ["sides", "cell", "side"] []) : Cal P w K mg base "crossed" 4 F_crossed :=
  cal_of F sc_crossed gm b fun cdv A outer s H E hr => ⟨_, (css_cons (cs_for rfl PassesOwn.never (ci_range3 rfl T.range (ca_cons (ce_op op_sub rd_sub (ce_lenK (K := K) rfl T (ca_cons (ce_var 1) ca_nil)) ce_int) (ca_cons (ce_un un_neg rd_neg ce_int) (ca_cons (ce_un un_neg rd_neg ce_int) ca_nil)))) (cg_name sc_crossed.nd) (css_cons (cs_if (ct_cmp (op_eqDK (K := K) rfl hr.units) rd_eq (ce_ix (ix_seqK (K := K) rfl) rd_ix (ce_var 1) (ce_var 3)) (ce_var 2)) (css_one (cs_ret (ce_callC C_in_form hr (ca_cons (ce_var 0) (ca_cons (ce_op (op_plusK (K := K) rfl) rd_plus (ce_slK (K := K) rfl (ce_var 1) co_none (co_some (ce_var 3))) (ce_slK (K := K) rfl (ce_var 1) (co_some (ce_op (op_plusK (K := K) rfl) rd_plus (ce_var 3) ce_int)) co_none)) ca_nil))))) css_nil) (css_one (cs_if (ct_not (ct_val (ce_callC C_meet hr (ca_cons (ce_var 0) (ca_cons (ce_ix (ix_seqK (K := K) rfl) rd_ix (ce_var 1) (ce_var 3)) (ca_cons (ce_var 2) ca_nil)))))) (css_one cs_break) css_nil)))) (css_one (cs_ret (ce_callC C_in_form hr (ca_cons (ce_var 0) (ca_cons (ce_op (op_plusK (K := K) rfl) rd_plus (ce_var 1) (ce_tup (ca_cons (ce_var 2) ca_nil))) ca_nil))))))⟩
abbrev s_times : Stmt := topS 5
theorem sc_times : FnScope ["sides", "one", "two", "side"] ["sides", "one", "two"] (defScope s_times) := ⟨rfl, rfl, rfl, by decide +kernel, rfl, by decide +kernel, by decide +kernel⟩
theorem ok_times (T : Bt mg) (C_crossed : Cal P w K mg base "crossed" 4 F_crossed) {f : Addr} {fd : FuncData} (F : Fun K "times" "times" s_times f fd) (gm : mg "times" = some (.ref f)) (b : Binds K fd ["sides", "one", "two"] []) : Cal P w K mg base "times" 5 F_times :=
  cal_of F sc_times gm b fun cdv A outer s H E hr => ⟨_, (css_cons (cs_for rfl PassesOwn.never (ci_seqK (K := K) rfl (ce_var 2)) (cg_name sc_times.nd) (css_one (cs_set sc_times.nd (ce_callC C_crossed hr (ca_cons (ce_var 0) (ca_cons (ce_var 1) (ca_cons (ce_var 3) ca_nil))))))) (css_one (cs_ret (ce_var 1))))⟩
abbrev s_neighbours : Stmt := topS 6
theorem sc_neighbours : FnScope ["sides", "cell", "side"] ["sides", "cell"] (defScope s_neighbours) := ⟨rfl, rfl, rfl, by decide +kernel, rfl, by decide +kernel, by decide +kernel⟩
theorem ok_neighbours (T : Bt mg) (C_crossed : Cal P w K mg base "crossed" 4 F_crossed) {f : Addr} {fd : FuncData} (F : Fun K "neighbours" "neighbours" s_neighbours f fd) (gm : mg "neighbours" = some (.ref f)) (b : Binds K fd ["sides", "cell"] []) : Cal P w K mg base "neighbours" 5 F_neighbours :=
  cal_of F sc_neighbours gm b fun cdv A outer s H E hr => ⟨_, (css_one (cs_ret (Cl.ce (cl_lc (own := [("side", 2)]) rfl sc_neighbours.nd (ci_range1 rfl T.range (ca_cons (ce_var 0) ca_nil)) (blkOk_by (by kernel_rfl)) (fun _ _ _ _ _ => (cg_name sc_neighbours.nd)) gw_name (fun _ _ _ _ _ => cts_nil) (fun _ _ _ _ _ => (ce_callC C_crossed hr (ca_cons (ce_var 0) (ca_cons (ce_var 1) (ca_cons (ce_var 2) ca_nil)))))))))⟩
abbrev s_barred_after : Stmt := topS 7
theorem sc_barred_after : FnScope ["sides", "barred", "side", "near", "one"] ["sides", "barred", "side"] (defScope s_barred_after) := ⟨rfl, rfl, rfl, by decide +kernel, rfl, by decide +kernel, by decide +kernel⟩
theorem ok_barred_after (T : Bt mg)  {f : Addr} {fd : FuncData} (F : Fun K "barred_after" "barred_after" s_barred_after f fd) (gm : mg "barred_after" = some (.ref f)) (b : Binds K fd ["sides", "barred", "side"] []) : Cal P w K mg base "barred_after" 1 F_barred_after :=
  cal_of F sc_barred_after gm b fun cdv A outer s H E hr => ⟨_, (css_cons (cs_setLc (own := [("one", 4)]) rfl sc_barred_after.nd (ci_seqK (K := K) rfl (ce_tup (ca_cons (ce_op op_mod rd_mod (ce_op op_sub rd_sub (ce_var 2) ce_int) (ce_var 0)) (ca_cons (ce_op op_mod rd_mod (ce_op (op_plusK (K := K) rfl) rd_plus (ce_var 2) ce_int) (ce_var 0)) ca_nil)))) (blkOk_by (by kernel_rfl)) (fun _ _ _ _ _ => (cg_name sc_barred_after.nd)) gw_name (fun _ _ _ _ _ => (cts_one (Cw.ct (cw_or (ct_cmp (op_inSK (K := K) rfl (units65 hr)) rd_in (ce_var 4) (ce_var 1)) (cw_or1 (ct_cmp op_lt rd_cmpI (ce_var 4) (ce_var 2))))))) (fun _ _ _ _ _ => (ce_var 4))) (css_one (cs_ret (ce_tuple1K (K := K) rfl T (ca_cons (ce_sorted1K (K := K) rfl T hr (ca_cons (ce_op (op_plusK (K := K) rfl) rd_plus (cl_lst (ca_cons (ce_var 2) ca_nil)).ce (ce_var 3)) ca_nil)) ca_nil)))))⟩
abbrev s_turns : Stmt := topS 9
theorem sc_turns : FnScope ["sides", "found", "by", "k"] ["sides"] (defScope s_turns) := ⟨rfl, rfl, rfl, by decide +kernel, rfl, by decide +kernel, by decide +kernel⟩
theorem ok_turns (T : Bt mg)  {f : Addr} {fd : FuncData} (F : Fun K "turns" "turns" s_turns f fd) (gm : mg "turns" = some (.ref f)) (b : Binds K fd ["sides"] []) : Cal P w K mg base "turns" 1 F_turns :=
  cal_of F sc_turns gm b fun cdv A outer s H E hr => ⟨_, (css_cons (cs_setLc (own := [("by", 2)]) rfl sc_turns.nd (ci_range1 rfl T.range (ca_cons (ce_var 0) ca_nil)) (blkOk_by (by kernel_rfl)) (fun _ _ _ _ _ => (cg_name sc_turns.nd)) gw_name (fun _ _ _ _ _ => cts_nil) (fun _ _ _ _ _ => (ce_tuple1K (K := K) rfl T (ca_cons (Cl.ce (cl_lc (own := [("k", 3)]) rfl sc_turns.nd (ci_range1 rfl T.range (ca_cons (ce_var 0) ca_nil)) (blkOk_by (by kernel_rfl)) (fun _ _ _ _ _ => (cg_name sc_turns.nd)) gw_name (fun _ _ _ _ _ => cts_nil) (fun _ _ _ _ _ => (ce_op op_mod rd_mod (ce_op (op_plusK (K := K) rfl) rd_plus (ce_var 3) (ce_var 2)) (ce_var 0))))) ca_nil)))) (css_one (cs_ret (ce_op (op_plusK (K := K) rfl) rd_plus (ce_var 1) (Cl.ce (cl_lc (own := [("by", 2)]) rfl sc_turns.nd (ci_range1 rfl T.range (ca_cons (ce_var 0) ca_nil)) (blkOk_by (by kernel_rfl)) (fun _ _ _ _ _ => (cg_name sc_turns.nd)) gw_name (fun _ _ _ _ _ => cts_nil) (fun _ _ _ _ _ => (ce_tuple1K (K := K) rfl T (ca_cons (Cl.ce (cl_lc (own := [("k", 3)]) rfl sc_turns.nd (ci_range1 rfl T.range (ca_cons (ce_var 0) ca_nil)) (blkOk_by (by kernel_rfl)) (fun _ _ _ _ _ => (cg_name sc_turns.nd)) gw_name (fun _ _ _ _ _ => cts_nil) (fun _ _ _ _ _ => (ce_op op_mod rd_mod (ce_op op_sub rd_sub (ce_var 2) (ce_var 3)) (ce_var 0))))) ca_nil)))))))))⟩
abbrev s_moved : Stmt := topS 10
theorem sc_moved : FnScope ["sides", "motion", "cell", "goal", "turn", "side"] ["sides", "motion", "cell"] (defScope s_moved) := ⟨rfl, rfl, rfl, by decide +kernel, rfl, by decide +kernel, by decide +kernel⟩
theorem ok_moved (T : Bt mg) (C_times : Cal P w K mg base "times" 5 F_times) (C_in_form : Cal P w K mg base "in_form" 3 F_in_form) {f : Addr} {fd : FuncData} (F : Fun K "moved" "moved" s_moved f fd) (gm : mg "moved" = some (.ref f)) (b : Binds K fd ["sides", "motion", "cell"] []) : Cal P w K mg base "moved" 6 F_moved :=
  cal_of F sc_moved gm b fun cdv A outer s H E hr => ⟨_, (css_cons (cs_asg (ce_var 1) (cg_tup2K (K := K) rfl rfl (cg_name sc_moved.nd) (cg_name sc_moved.nd))) (css_one (cs_ret (ce_callC C_times hr (ca_cons (ce_var 0) (ca_cons (ce_var 3) (ca_cons (ce_callC C_in_form hr (ca_cons (ce_var 0) (ca_cons (ce_tuple1K (K := K) rfl T (ca_cons (Cl.ce (cl_lc (own := [("side", 5)]) rfl sc_moved.nd (ci_seqK (K := K) rfl (ce_var 2)) (blkOk_by (by kernel_rfl)) (fun _ _ _ _ _ => (cg_name sc_moved.nd)) gw_name (fun _ _ _ _ _ => cts_nil) (fun _ _ _ _ _ => (ce_ix (ix_seqK (K := K) rfl) rd_ix (ce_var 4) (ce_var 5))))) ca_nil)) ca_nil))) ca_nil)))))))⟩
abbrev s_figure : Stmt := topS 11
theorem sc_figure : FnScope ["cells"] ["cells"] (defScope s_figure) := ⟨rfl, rfl, rfl, by decide +kernel, rfl, by decide +kernel, by decide +kernel⟩
theorem ok_figure (T : Bt mg)  {f : Addr} {fd : FuncData} (F : Fun K "figure" "figure" s_figure f fd) (gm : mg "figure" = some (.ref f)) (b : Binds K fd ["cells"] []) : Cal P w K mg base "figure" 1 F_figure :=
  cal_of F sc_figure gm b fun cdv A outer s H E hr => ⟨_, (css_one (cs_ret (ce_tuple1K (K := K) rfl T (ca_cons (ce_sortSetK (K := K) (P := P) (w := w) rfl rfl rfl hr rfl rfl T.sorted rfl T.set (ce_var 0)) ca_nil))))⟩
abbrev s_moved_figure : Stmt := topS 12
theorem sc_moved_figure : FnScope ["sides", "motion", "cells", "cell"] ["sides", "motion", "cells"] (defScope s_moved_figure) := ⟨rfl, rfl, rfl, by decide +kernel, rfl, by decide +kernel, by decide +kernel⟩
theorem ok_moved_figure (T : Bt mg) (C_figure : Cal P w K mg base "figure" 1 F_figure) (C_moved : Cal P w K mg base "moved" 6 F_moved) {f : Addr} {fd : FuncData} (F : Fun K "moved_figure" "moved_figure" s_moved_figure f fd) (gm : mg "moved_figure" = some (.ref f)) (b : Binds K fd ["sides", "motion", "cells"] []) : Cal P w K mg base "moved_figure" 7 F_moved_figure :=
  cal_of F sc_moved_figure gm b fun cdv A outer s H E hr => ⟨_, (css_one (cs_ret (ce_callC C_figure hr (ca_cons (Cl.ce (cl_lc (own := [("cell", 3)]) rfl sc_moved_figure.nd (ci_seqK (K := K) rfl (ce_var 2)) (blkOk_by (by kernel_rfl)) (fun _ _ _ _ _ => (cg_name sc_moved_figure.nd)) gw_name (fun _ _ _ _ _ => cts_nil) (fun _ _ _ _ _ => (ce_callC C_moved hr (ca_cons (ce_var 0) (ca_cons (ce_var 1) (ca_cons (ce_var 3) ca_nil))))))) ca_nil))))⟩
abbrev s_grown : Stmt := topS 13
theorem sc_grown : FnScope ["sides", "cells", "cell", "side"] ["sides", "cells"] (defScope s_grown) := ⟨rfl, rfl, rfl, by decide +kernel, rfl, by decide +kernel, by decide +kernel⟩
theorem ok_grown (T : Bt mg) (C_figure : Cal P w K mg base "figure" 1 F_figure) (C_crossed : Cal P w K mg base "crossed" 4 F_crossed) {f : Addr} {fd : FuncData} (F : Fun K "grown" "grown" s_grown f fd) (gm : mg "grown" = some (.ref f)) (b : Binds K fd ["sides", "cells"] []) : Cal P w K mg base "grown" 5 F_grown :=
  cal_of F sc_grown gm b fun cdv A outer s H E hr => ⟨_, (css_one (cs_ret (ce_callC C_figure hr (ca_cons (ce_op (op_plusK (K := K) rfl) rd_plus (ce_list1K (K := K) rfl T (ca_cons (ce_var 1) ca_nil)) (Cl.ce (cl_lc2 (own := [("cell", 2), ("side", 3)]) (vs1 := [3]) rfl sc_grown.nd (ci_seqK (K := K) rfl (ce_var 1)) (blkOk_by (by kernel_rfl)) (fun _ _ _ _ _ => (cg_name sc_grown.nd)) (fun _ _ _ _ _ => (ci_range1 rfl T.range (ca_cons (ce_var 0) ca_nil))) (fun _ _ _ _ _ => (cg_name sc_grown.nd)) gw_name gw_name (fun _ _ _ _ _ => cts_nil) (fun _ _ _ _ _ => (ce_callC C_crossed hr (ca_cons (ce_var 0) (ca_cons (ce_var 2) (ca_cons (ce_var 3) ca_nil)))))))) ca_nil))))⟩
abbrev s_living : Stmt := topS 15
theorem sc_living : FnScope ["sides", "town", "cell", "there"] ["sides", "town", "cell"] (defScope s_living) := ⟨rfl, rfl, rfl, by decide +kernel, rfl, by decide +kernel, by decide +kernel⟩
theorem ok_living (T : Bt mg) (C_neighbours : Cal P w K mg base "neighbours" 5 F_neighbours) {f : Addr} {fd : FuncData} (F : Fun K "living" "living" s_living f fd) (gm : mg "living" = some (.ref f)) (b : Binds K fd ["sides", "town", "cell"] []) : Cal P w K mg base "living" 6 F_living :=
  cal_of F sc_living gm b fun cdv A outer s H E hr => ⟨_, (css_one (cs_ret (ce_lenK (K := K) rfl T (ca_cons (Cl.ce (cl_lc (own := [("there", 3)]) rfl sc_living.nd (ci_seqK (K := K) rfl (ce_callC C_neighbours hr (ca_cons (ce_var 0) (ca_cons (ce_var 2) ca_nil)))) (blkOk_by (by kernel_rfl)) (fun _ _ _ _ _ => (cg_name sc_living.nd)) gw_name (fun _ _ _ _ _ => (cts_one (ct_cmp (op_inSK (K := K) rfl (units65 hr)) rd_in (ce_var 3) (ce_var 1)))) (fun _ _ _ _ _ => (ce_var 3)))) ca_nil))))⟩
abbrev s_beat : Stmt := topS 16
theorem sc_beat : FnScope ["sides", "rule", "town", "found", "cell"] ["sides", "rule", "town"] (defScope s_beat) := ⟨rfl, rfl, rfl, by decide +kernel, rfl, by decide +kernel, by decide +kernel⟩
theorem ok_beat (T : Bt mg) (C_figure : Cal P w K mg base "figure" 1 F_figure) (C_grown : Cal P w K mg base "grown" 5 F_grown) (C_living : Cal P w K mg base "living" 6 F_living) {f : Addr} {fd : FuncData} (F : Fun K "beat" "beat" s_beat f fd) (gm : mg "beat" = some (.ref f)) (b : Binds K fd ["sides", "rule", "town"] []) : Cal P w K mg base "beat" 7 F_beat :=
  cal_of F sc_beat gm b fun cdv A outer s H E hr => ⟨_, (css_cons (cs_own sc_beat.nd (cl_lst ca_nil)) (css_cons (cs_for rfl PassesOwn.never (ci_seqK (K := K) rfl (ce_callC C_grown hr (ca_cons (ce_var 0) (ca_cons (ce_var 2) ca_nil)))) (cg_name sc_beat.nd) (css_one (cs_if (ct_cmp (op_inSK (K := K) rfl (units65 hr)) rd_in (ce_callC C_living hr (ca_cons (ce_var 0) (ca_cons (ce_var 2) (ca_cons (ce_var 4) ca_nil)))) (ce_ix (ix_seqK (K := K) rfl) rd_ix (ce_var 1) (ce_if (ct_cmp (op_inSK (K := K) rfl (units65 hr)) rd_in (ce_var 4) (ce_var 2)) ce_int ce_int))) (css_one (cs_append (ce_var 4))) css_nil))) (css_one (cs_ret (ce_callC C_figure hr (ca_cons (ce_var 3) ca_nil))))))⟩
abbrev s_beats : Stmt := topS 17
theorem sc_beats : FnScope ["sides", "rule", "town", "many", "_"] ["sides", "rule", "town", "many"] (defScope s_beats) := ⟨rfl, rfl, rfl, by decide +kernel, rfl, by decide +kernel, by decide +kernel⟩
theorem ok_beats (T : Bt mg) (C_beat : Cal P w K mg base "beat" 7 F_beat) {f : Addr} {fd : FuncData} (F : Fun K "beats" "beats" s_beats f fd) (gm : mg "beats" = some (.ref f)) (b : Binds K fd ["sides", "rule", "town", "many"] []) : Cal P w K mg base "beats" 8 F_beats :=
  cal_of F sc_beats gm b fun cdv A outer s H E hr => ⟨_, (css_cons (cs_for rfl PassesOwn.never (ci_range1 rfl T.range (ca_cons (ce_var 3) ca_nil)) (cg_name sc_beats.nd) (css_one (cs_set sc_beats.nd (ce_callC C_beat hr (ca_cons (ce_var 0) (ca_cons (ce_var 1) (ca_cons (ce_var 2) ca_nil))))))) (css_one (cs_ret (ce_var 2))))⟩
abbrev s_fate : Stmt := topS 18
theorem sc_fate : FnScope ["sides", "rule", "town", "most", "found", "_", "there"] ["sides", "rule", "town", "most"] (defScope s_fate) := ⟨rfl, rfl, rfl, by decide +kernel, rfl, by decide +kernel, by decide +kernel⟩
theorem ok_fate (T : Bt mg) (C_beat : Cal P w K mg base "beat" 7 F_beat) {f : Addr} {fd : FuncData} (F : Fun K "fate" "fate" s_fate f fd) (gm : mg "fate" = some (.ref f)) (b : Binds K fd ["sides", "rule", "town", "most"] []) : Cal P w K mg base "fate" 8 F_fate :=
  cal_of F sc_fate gm b fun cdv A outer s H E hr => ⟨_, (css_cons (cs_own sc_fate.nd (cl_lst (ca_cons (ce_var 2) ca_nil))) (css_cons (cs_for rfl PassesOwn.never (ci_range1 rfl T.range (ca_cons (ce_var 3) ca_nil)) (cg_name sc_fate.nd) (css_cons (cs_set sc_fate.nd (ce_frz (ce_callC C_beat hr (ca_cons (ce_var 0) (ca_cons (ce_var 1) (ca_cons (ce_ix (ix_seqK (K := K) rfl) rd_ix (ce_var 4) (ce_un un_neg rd_neg ce_int)) ca_nil)))))) (css_cons (cs_if (ct_frzT (ct_cmp (op_inSK (K := K) rfl (units65 hr)) rd_in (ce_var 6) (ce_var 4))) (css_one (cs_ret (ce_tup (ca_cons (ce_indexK (K := K) rfl (units65 hr) (ce_var 4) (ce_var 6)) (ca_cons (ce_op op_sub rd_sub (ce_lenK (K := K) rfl T (ca_cons (ce_var 4) ca_nil)) (ce_indexK (K := K) rfl (units65 hr) (ce_var 4) (ce_var 6))) ca_nil))))) css_nil) (css_one (cs_append (ce_var 6)))))) (css_one (cs_ret ce_non))))⟩
abbrev s_machine : Stmt := topS 20
theorem sc_machine : FnScope ["sides", "found", "rows", "at", "row", "side", "there"] ["sides"] (defScope s_machine) := ⟨rfl, rfl, rfl, by decide +kernel, rfl, by decide +kernel, by decide +kernel⟩
theorem ok_machine (T : Bt mg) (C_barred_after : Cal P w K mg base "barred_after" 1 F_barred_after) {f : Addr} {fd : FuncData} (F : Fun K "machine" "machine" s_machine f fd) (gm : mg "machine" = some (.ref f)) (b : Binds K fd ["sides"] []) : Cal P w K mg base "machine" 2 F_machine :=
  cal_of F sc_machine gm b fun cdv A outer s H E hr => ⟨_, (css_cons (cs_own sc_machine.nd (cl_lst (ca_cons (ce_tup ca_nil) ca_nil))) (css_cons (cs_own sc_machine.nd (cl_lst ca_nil)) (css_cons (cs_set sc_machine.nd ce_int) (css_cons (cs_while 100000 PassesOwn.never (ct_frzT (ct_cmp op_lt rd_cmpI (ce_var 3) (ce_lenK (K := K) rfl T (ca_cons (ce_var 1) ca_nil)))) (css_cons (cs_own sc_machine.nd (cl_lst ca_nil)) (css_cons (cs_for rfl PassesOwn.never (ci_range1 rfl T.range (ca_cons (ce_var 0) ca_nil)) (cg_name sc_machine.nd) (css_cons (cs_if (ct_frzT (ct_cmp (op_inSK (K := K) rfl (units65 hr)) rd_in (ce_var 5) (ce_ix (ix_seqK (K := K) rfl) rd_ix (ce_var 1) (ce_var 3)))) (css_cons (cs_append (ce_un un_neg rd_neg ce_int)) (css_one cs_continue)) css_nil) (css_cons (cs_set sc_machine.nd (ce_frz (ce_callC C_barred_after hr (ca_cons (ce_var 0) (ca_cons (ce_ix (ix_seqK (K := K) rfl) rd_ix (ce_var 1) (ce_var 3)) (ca_cons (ce_var 5) ca_nil)))))) (css_cons (cs_if (ct_frzT (ct_cmp (op_notInSK (K := K) rfl (units65 hr)) rd_notIn (ce_var 6) (ce_var 1))) (css_one (cs_append (ce_var 6))) css_nil) (css_one (cs_append (ce_frz (ce_indexK (K := K) rfl (units65 hr) (ce_var 1) (ce_var 6))))))))) (css_cons (cs_append (ce_frz (ce_tuple1K (K := K) rfl T (ca_cons (ce_var 4) ca_nil)))) (css_one (cs_aug sc_machine.nd (ip_plusK (K := K) rfl) rd_plusI ce_int)))))) (css_one (cs_ret (ce_tup (ca_cons (ce_tuple1K (K := K) rfl T (ca_cons (ce_var 1) ca_nil)) (ca_cons (ce_tuple1K (K := K) rfl T (ca_cons (ce_var 2) ca_nil)) ca_nil)))))))))⟩
abbrev s_ring : Stmt := topS 21
theorem sc_ring : FnScope ["sides", "far", "one", "two", "_"] ["sides", "far"] (defScope s_ring) := ⟨rfl, rfl, rfl, by decide +kernel, rfl, by decide +kernel, by decide +kernel⟩
theorem ok_ring (T : Bt mg)  {f : Addr} {fd : FuncData} (F : Fun K "ring" "ring" s_ring f fd) (gm : mg "ring" = some (.ref f)) (b : Binds K fd ["sides", "far"] []) : Cal P w K mg base "ring" 1 F_ring :=
  cal_of F sc_ring gm b fun cdv A outer s H E hr => ⟨_, (css_cons (cs_if (ct_cmp op_lt rd_cmpI (ce_var 1) ce_int) (css_one (cs_ret (ce_if (ct_cmp (op_eqDK (K := K) rfl hr.units) rd_eq (ce_var 1) ce_int) (ce_var 0) ce_int))) css_nil) (css_cons (cs_par rfl sc_ring.nd (ca_cons (ce_var 0) (ca_cons (ce_op op_times rd_times (ce_var 0) (ce_op op_sub rd_sub (ce_var 0) ce_int)) ca_nil))) (css_cons (cs_for rfl PassesOwn.never (ci_range1 rfl T.range (ca_cons (ce_op op_sub rd_sub (ce_var 1) ce_int) ca_nil)) (cg_name sc_ring.nd) (css_one (cs_par rfl sc_ring.nd (ca_cons (ce_var 3) (ca_cons (ce_op op_sub rd_sub (ce_op op_times rd_times (ce_op op_sub rd_sub (ce_var 0) ce_int) (ce_var 3)) (ce_var 2)) ca_nil))))) (css_one (cs_ret (ce_var 3))))))⟩
abbrev s_ball : Stmt := topS 22
theorem sc_ball : FnScope ["sides", "far", "k"] ["sides", "far"] (defScope s_ball) := ⟨rfl, rfl, rfl, by decide +kernel, rfl, by decide +kernel, by decide +kernel⟩
theorem ok_ball (T : Bt mg) (C_ring : Cal P w K mg base "ring" 1 F_ring) {f : Addr} {fd : FuncData} (F : Fun K "ball" "ball" s_ball f fd) (gm : mg "ball" = some (.ref f)) (b : Binds K fd ["sides", "far"] []) : Cal P w K mg base "ball" 2 F_ball :=
  cal_of F sc_ball gm b fun cdv A outer s H E hr => ⟨_, (css_one (cs_ret (ce_sum1K (K := K) rfl T rfl (ca_cons (Cl.ce (cl_lc (own := [("k", 2)]) rfl sc_ball.nd (ci_range1 rfl T.range (ca_cons (ce_op (op_plusK (K := K) rfl) rd_plus (ce_var 1) ce_int) ca_nil)) (blkOk_by (by kernel_rfl)) (fun _ _ _ _ _ => (cg_name sc_ball.nd)) gw_name (fun _ _ _ _ _ => cts_nil) (fun _ _ _ _ _ => (ce_callC C_ring hr (ca_cons (ce_var 0) (ca_cons (ce_var 2) ca_nil)))))) ca_nil))))⟩
abbrev s_cells_at : Stmt := topS 23
theorem sc_cells_at : FnScope ["sides", "far", "rows", "found", "_", "cell", "s", "k"] ["sides", "far"] (defScope s_cells_at) := ⟨rfl, rfl, rfl, by decide +kernel, rfl, by decide +kernel, by decide +kernel⟩
theorem ok_cells_at (T : Bt mg) (C_machine : Cal P w K mg base "machine" 2 F_machine) {f : Addr} {fd : FuncData} (F : Fun K "cells_at" "cells_at" s_cells_at f fd) (gm : mg "cells_at" = some (.ref f)) (b : Binds K fd ["sides", "far"] []) : Cal P w K mg base "cells_at" 3 F_cells_at :=
  cal_of F sc_cells_at gm b fun cdv A outer s H E hr => ⟨_, (css_cons (cs_set sc_cells_at.nd (ce_ix (ix_seqK (K := K) rfl) rd_ix (ce_callC C_machine hr (ca_cons (ce_var 0) ca_nil)) ce_int)) (css_cons (cs_set sc_cells_at.nd (cl_lst (ca_cons (ce_tup (ca_cons ce_int (ca_cons (ce_tup ca_nil) ca_nil))) ca_nil)).ce) (css_cons (cs_for rfl PassesOwn.never (ci_range1 rfl T.range (ca_cons (ce_var 1) ca_nil)) (cg_name sc_cells_at.nd) (css_one (cs_setLc2 (own := [("s", 6), ("cell", 5), ("k", 7)]) (vs1 := [7]) rfl sc_cells_at.nd (ci_seqK (K := K) rfl (ce_var 3)) (blkOk_by (by kernel_rfl)) (fun _ _ _ _ _ => (cg_tup2K (K := K) rfl rfl (cg_name sc_cells_at.nd) (cg_name sc_cells_at.nd))) (fun _ _ _ _ _ => (ci_range1 rfl T.range (ca_cons (ce_var 0) ca_nil))) (fun _ _ _ _ _ => (cg_name sc_cells_at.nd)) gw_tup2 gw_name (fun _ _ _ _ _ => (cts_one (ct_cmp op_ge rd_cmpI (ce_ix (ix_seqK (K := K) rfl) rd_ix (ce_ix (ix_seqK (K := K) rfl) rd_ix (ce_var 2) (ce_var 6)) (ce_var 7)) ce_int))) (fun _ _ _ _ _ => (ce_tup (ca_cons (ce_ix (ix_seqK (K := K) rfl) rd_ix (ce_ix (ix_seqK (K := K) rfl) rd_ix (ce_var 2) (ce_var 6)) (ce_var 7)) (ca_cons (ce_op (op_plusK (K := K) rfl) rd_plus (ce_var 5) (ce_tup (ca_cons (ce_var 7) ca_nil))) ca_nil))))))) (css_one (cs_ret (Cl.ce (cl_lc (own := [("_", 4), ("cell", 5)]) rfl sc_cells_at.nd (ci_seqK (K := K) rfl (ce_var 3)) (blkOk_by (by kernel_rfl)) (fun _ _ _ _ _ => (cg_tup2K (K := K) rfl rfl (cg_name sc_cells_at.nd) (cg_name sc_cells_at.nd))) gw_tup2 (fun _ _ _ _ _ => cts_nil) (fun _ _ _ _ _ => (ce_var 5)))))))))⟩
abbrev s_round_ball : Stmt := topS 25
theorem sc_round_ball : FnScope ["sides", "far", "k", "cell"] ["sides", "far"] (defScope s_round_ball) := ⟨rfl, rfl, rfl, by decide +kernel, rfl, by decide +kernel, by decide +kernel⟩
theorem ok_round_ball (T : Bt mg) (C_figure : Cal P w K mg base "figure" 1 F_figure) (C_cells_at : Cal P w K mg base "cells_at" 3 F_cells_at) {f : Addr} {fd : FuncData} (F : Fun K "round_ball" "round_ball" s_round_ball f fd) (gm : mg "round_ball" = some (.ref f)) (b : Binds K fd ["sides", "far"] []) : Cal P w K mg base "round_ball" 4 F_round_ball :=
  cal_of F sc_round_ball gm b fun cdv A outer s H E hr => ⟨_, (css_one (cs_ret (ce_callC C_figure hr (ca_cons (Cl.ce (cl_lc2 (own := [("k", 2), ("cell", 3)]) (vs1 := [3]) rfl sc_round_ball.nd (ci_range1 rfl T.range (ca_cons (ce_op (op_plusK (K := K) rfl) rd_plus (ce_var 1) ce_int) ca_nil)) (blkOk_by (by kernel_rfl)) (fun _ _ _ _ _ => (cg_name sc_round_ball.nd)) (fun _ _ _ _ _ => (ci_seqK (K := K) rfl (ce_callC C_cells_at hr (ca_cons (ce_var 0) (ca_cons (ce_var 2) ca_nil))))) (fun _ _ _ _ _ => (cg_name sc_round_ball.nd)) gw_name gw_name (fun _ _ _ _ _ => cts_nil) (fun _ _ _ _ _ => (ce_var 3)))) ca_nil))))⟩
abbrev s__law_same : Stmt := topS 27
theorem sc__law_same : FnScope ["actual", "due", "k"] ["actual", "due"] (defScope s__law_same) := ⟨rfl, rfl, rfl, by decide +kernel, rfl, by decide +kernel, by decide +kernel⟩
theorem ok__law_same (T : Bt mg)  {f : Addr} {fd : FuncData} (F : Fun K "_law_same" "_law_same" s__law_same f fd) (gm : mg "_law_same" = some (.ref f)) (b : Binds K fd ["actual", "due"] []) : ∀ j : Nat, Cal P w K mg base "_law_same" (0 + j + 1) (F__law_same j)
  | 0 => cal_none F sc__law_same gm b
  | j + 1 => by
    have C__law_same := ok__law_same T  F gm b j
    exact cal_of F sc__law_same gm b fun cdv A outer s H E hr => ⟨_, (css_cons (cs_if (Cw.ct (cw_or (ct_val (ce_isiK (K := K) rfl rfl T.isinstance rfl T.tuple rfl (ce_var 1))) (cw_or1 (ct_val (ce_isiK (K := K) rfl rfl T.isinstance rfl T.list rfl (ce_var 1)))))) (css_cons (cs_if (Cw.ct (cw_or (ct_cmp (op_neDK (K := K) rfl hr.units) rd_ne (ce_isiK (K := K) rfl rfl T.isinstance rfl T.tuple rfl (ce_var 1)) (ce_isiK (K := K) rfl rfl T.isinstance rfl T.tuple rfl (ce_var 0))) (cw_or (ct_cmp (op_neDK (K := K) rfl hr.units) rd_ne (ce_isiK (K := K) rfl rfl T.isinstance rfl T.list rfl (ce_var 1)) (ce_isiK (K := K) rfl rfl T.isinstance rfl T.list rfl (ce_var 0))) (cw_or1 (ct_cmp (op_neDK (K := K) rfl hr.units) rd_ne (ce_lenK (K := K) rfl T (ca_cons (ce_var 0) ca_nil)) (ce_lenK (K := K) rfl T (ca_cons (ce_var 1) ca_nil))))))) (css_one (cs_ret ce_bl)) css_nil) (css_one (cs_ret (ce_cmp (op_eqDK (K := K) rfl hr.units) rd_eq (ce_lenK (K := K) rfl T (ca_cons (Cl.ce (cl_lc (own := [("k", 2)]) rfl sc__law_same.nd (ci_range1 rfl T.range (ca_cons (ce_lenK (K := K) rfl T (ca_cons (ce_var 1) ca_nil)) ca_nil)) (blkOk_by (by kernel_rfl)) (fun _ _ _ _ _ => (cg_name sc__law_same.nd)) gw_name (fun _ _ _ _ _ => (cts_one (ct_not (ct_val (ce_callC C__law_same hr (ca_cons (ce_ix (ix_seqK (K := K) rfl) rd_ix (ce_var 0) (ce_var 2)) (ca_cons (ce_ix (ix_seqK (K := K) rfl) rd_ix (ce_var 1) (ce_var 2)) ca_nil)) (hj := by omega)))))) (fun _ _ _ _ _ => (ce_var 2)))) ca_nil)) ce_int)))) css_nil) (css_cons (cs_if (ct_cmp op_isN rd_isN (ce_var 1) ce_non) (css_one (cs_ret (ce_cmp op_isN rd_isN (ce_var 0) ce_non))) css_nil) (css_cons (cs_if (Cw.ct (cw_or (ct_val (ce_isiK (K := K) rfl rfl T.isinstance rfl T.bool rfl (ce_var 1))) (cw_or1 (ct_val (ce_isiK (K := K) rfl rfl T.isinstance rfl T.bool rfl (ce_var 0)))))) (css_one (cs_ret (ce_and (ce_isiK (K := K) rfl rfl T.isinstance rfl T.bool rfl (ce_var 1)) (ce_and (ce_isiK (K := K) rfl rfl T.isinstance rfl T.bool rfl (ce_var 0)) (ce_one (ce_cmp (op_eqDK (K := K) rfl hr.units) rd_eq (ce_var 0) (ce_var 1))))))) css_nil) (css_cons (cs_if (ct_val (ce_isiK (K := K) rfl rfl T.isinstance rfl T.int rfl (ce_var 1))) (css_one (cs_ret (ce_and (ce_isiK (K := K) rfl rfl T.isinstance rfl T.int rfl (ce_var 0)) (ce_one (ce_cmp (op_eqDK (K := K) rfl hr.units) rd_eq (ce_var 0) (ce_var 1)))))) css_nil) (css_one (cs_ret (ce_and (ce_isiK (K := K) rfl rfl T.isinstance rfl T.str rfl (ce_var 0)) (ce_and (ce_isiK (K := K) rfl rfl T.isinstance rfl T.str rfl (ce_var 1)) (ce_one (ce_cmp (op_eqDK (K := K) rfl hr.units) rd_eq (ce_var 0) (ce_var 1)))))))))))⟩
abbrev s__law_pool : Stmt := topS 28
theorem sc__law_pool : FnScope ["script", "salt", "cell"] ["script"] (defScope s__law_pool) := ⟨rfl, rfl, rfl, by decide +kernel, rfl, by decide +kernel, by decide +kernel⟩
theorem ok__law_pool (T : Bt mg) {f : Addr} {fd : FuncData} (F : Fun K "_law_pool" "_law_pool" s__law_pool f fd) : FnOk P w K mg base CX0 1 f fd ["script"] (spNew K) := by
  refine F.ok sc__law_pool (fun vs H Q E h => ?_) (fun cdv A outer s H vs Q E hr h => ?_)
  · obtain ⟨a, ns, rfl, _⟩ := h
    rfl
  · obtain ⟨a, ns, rfl, hS, hl, k⟩ := h
    have hp : PSs (cxOf CX0 P w K mg base ["script", "salt", "cell"] "_law_pool" (defScope s__law_pool) f cdv A outer s H E).nox (defBody s__law_pool) (tPool K) :=
      pss_cons (ps_set sc__law_pool.nd rfl (.inl rfl) pe_int) (pss_cons (ps_for PassesOwn.never rfl (pi_seq (pe_slice sl_list (pe_var rfl (.inl rfl)) po_none (po_some pe_int))) (pg_name sc__law_pool.nd rfl (.inl rfl))
        (pss_one (ps_set sc__law_pool.nd rfl (.inl rfl) (pe_op op_mod (pe_callTy call_int1 rfl T.int (by decide +kernel) (pa_cons (pe_op op_add (pe_op op_mul (pe_var rfl (.inl rfl)) pe_int) (pe_var rfl (.inl rfl))) pa_nil) (by decide) (by decide) rfl rfl) pe_int))))
        (pss_one (ps_ret (pe_lst (pa_cons (pe_callTy call_list_of rfl T.list (by decide +kernel) (pa_cons (pe_var rfl (.inl rfl)) pa_nil) (by decide) (by decide) rfl rfl) (pa_cons pe_int (pa_cons pe_int (pa_cons pe_int (pa_cons (pe_var rfl (.inl rfl)) pa_nil)))))))))
    exact ⟨_, hp, read_pool hS hl k⟩
abbrev s__law_spread : Stmt := topS 29
theorem sc__law_spread : FnScope ["cell", "mixed", "total", "k"] ["cell"] (defScope s__law_spread) := ⟨rfl, rfl, rfl, by decide +kernel, rfl, by decide +kernel, by decide +kernel⟩
theorem ok__law_spread (T : Bt mg)  {f : Addr} {fd : FuncData} (F : Fun K "_law_spread" "_law_spread" s__law_spread f fd) (gm : mg "_law_spread" = some (.ref f)) (b : Binds K fd ["cell"] []) : Cal P w K mg base "_law_spread" 1 F__law_spread :=
  cal_of F sc__law_spread gm b fun cdv A outer s H E hr => ⟨_, (css_cons (cs_set sc__law_spread.nd (ce_op op_mod rd_mod (ce_int1 T (ca_cons (ce_var 0) ca_nil)) ce_int)) (css_cons (cs_set sc__law_spread.nd ce_int) (css_cons (cs_for rfl PassesOwn.never (ci_range1 rfl T.range (ca_cons ce_int ca_nil)) (cg_name sc__law_spread.nd) (css_cons (cs_set sc__law_spread.nd (ce_op op_mod rd_mod (ce_int1 T (ca_cons (ce_op (op_plusK (K := K) rfl) rd_plus (ce_op (op_plusK (K := K) rfl) rd_plus (ce_op op_times rd_times (ce_var 1) ce_int) ce_int) (ce_var 3)) ca_nil)) ce_int)) (css_one (cs_set sc__law_spread.nd (ce_op (op_plusK (K := K) rfl) rd_plus (ce_op op_times rd_times (ce_var 2) ce_int) (ce_var 1)))))) (css_one (cs_ret (ce_var 2))))))⟩
abbrev s__law_draw : Stmt := topS 30
theorem sc__law_draw : FnScope ["pool", "many", "cell", "mixed", "value"] ["pool", "many"] (defScope s__law_draw) := ⟨rfl, rfl, rfl, by decide +kernel, rfl, by decide +kernel, by decide +kernel⟩
theorem mono__law_draw : Mono W__law_draw := (mono_seq mono_lift (mono_seq mono_lift (mono_seq (mono_if (mono_seq mono_lift (mono_seq mono_lift (mono_ret monoE_lift))) mono_nx) (mono_seq mono_lift (mono_seq mono_lift (mono_ret monoE_lift))))))
theorem ok__law_draw (T : Bt mg) (C__law_spread : Cal P w K mg base "_law_spread" 1 F__law_spread) {f : Addr} {fd : FuncData} (F : Fun K "_law_draw" "_law_draw" s__law_draw f fd) (gm : mg "_law_draw" = some (.ref f)) (b : Binds K fd ["pool", "many"] []) : Cap P w K mg base "_law_draw" 2 R__law_draw :=
  cap_of F sc__law_draw gm b mono__law_draw len__law_draw hw__law_draw fun cdv A outer s H E hr => ⟨_, (cvs_cons mono_lift (cv_lift (cs_if (ct_frzT (Cw.ct (cw_and (ct_cmp op_le rd_cmpI (ce_ix (ix_seqK (K := K) rfl) rd_ix (ce_var 0) ce_int) ce_int) (cw_and1 (ct_cmp op_lt rd_cmpI (ce_ix (ix_seqK (K := K) rfl) rd_ix (ce_var 0) ce_int) (ce_lenK (K := K) rfl T (ca_cons (ce_ix (ix_seqK (K := K) rfl) rd_ix (ce_var 0) ce_int) ca_nil))))))) (css_cons (cs_set sc__law_draw.nd (ce_frz (ce_ix (ix_seqK (K := K) rfl) rd_ix (ce_ix (ix_seqK (K := K) rfl) rd_ix (ce_var 0) ce_int) (ce_ix (ix_seqK (K := K) rfl) rd_ix (ce_var 0) ce_int)))) (css_cons (cs_putP (ce_frz (ce_op (op_plusK (K := K) rfl) rd_plus (ce_ix (ix_seqK (K := K) rfl) rd_ix (ce_var 0) ce_int) ce_int)) ce_int) (css_cons (cs_putP (ce_var 2) ce_int) (css_one (cs_if (ct_cmp op_lt rd_cmpI (ce_var 2) ce_int) (css_one (cs_putP (ce_callC C__law_spread hr (ca_cons (ce_var 2) ca_nil)) ce_int)) css_nil))))) css_nil)) (cvs_cons mono_lift (cv_lift (cs_putP (ce_frz (ce_op (op_plusK (K := K) rfl) rd_plus (ce_ix (ix_seqK (K := K) rfl) rd_ix (ce_var 0) ce_int) ce_int)) ce_int)) (cvs_cons (mono_if (mono_seq mono_lift (mono_seq mono_lift (mono_ret monoE_lift))) mono_nx) (cv_if (ct_frzT (ct_cmp op_le rd_cmpI (ce_ix (ix_seqK (K := K) rfl) rd_ix (ce_var 0) ce_int) ce_int)) (cvs_cons mono_lift (cv_lift (cs_set sc__law_draw.nd (ce_frz (ce_op op_mod rd_mod (ce_int1 T (ca_cons (ce_op (op_plusK (K := K) rfl) rd_plus (ce_op (op_plusK (K := K) rfl) rd_plus (ce_op op_times rd_times (ce_ix (ix_seqK (K := K) rfl) rd_ix (ce_var 0) ce_int) ce_int) (ce_op op_times rd_times (ce_ix (ix_seqK (K := K) rfl) rd_ix (ce_var 0) ce_int) ce_int)) ce_int) ca_nil)) ce_int)))) (cvs_cons mono_lift (cv_lift (cs_set sc__law_draw.nd (ce_frz (ce_op op_mod rd_mod (ce_int1 T (ca_cons (ce_op (op_plusK (K := K) rfl) rd_plus (ce_op op_times rd_times (ce_var 3) ce_int) (ce_ix (ix_seqK (K := K) rfl) rd_ix (ce_var 0) ce_int)) ca_nil)) ce_int)))) (cvs_one (cv_ret (ew_lift (ce_op op_mod rd_mod (ce_op op_fdiv rd_div (ce_var 3) ce_int) (ce_var 1))))))) cvs_nil) (cvs_cons mono_lift (cv_lift (cs_set sc__law_draw.nd (ce_frz (ce_op op_mod rd_mod (ce_int1 T (ca_cons (ce_ix (ix_seqK (K := K) rfl) rd_ix (ce_var 0) ce_int) ca_nil)) (ce_var 1))))) (cvs_cons mono_lift (cv_lift (cs_putP (ce_frz (ce_op op_fdiv rd_div (ce_ix (ix_seqK (K := K) rfl) rd_ix (ce_var 0) ce_int) (ce_var 1))) ce_int)) (cvs_one (cv_ret (ew_lift (ce_var 4)))))))))⟩
abbrev s__law_pick : Stmt := topS 31
theorem sc__law_pick : FnScope ["pool", "items"] ["pool", "items"] (defScope s__law_pick) := ⟨rfl, rfl, rfl, by decide +kernel, rfl, by decide +kernel, by decide +kernel⟩
theorem mono__law_pick : Mono W__law_pick := (mono_ret (monoE_bin monoE_lift (monoE_pool monoR__law_draw)))
theorem ok__law_pick (T : Bt mg) (C__law_draw : Cap P w K mg base "_law_draw" 2 R__law_draw) {f : Addr} {fd : FuncData} (F : Fun K "_law_pick" "_law_pick" s__law_pick f fd) (gm : mg "_law_pick" = some (.ref f)) (b : Binds K fd ["pool", "items"] []) : Cap P w K mg base "_law_pick" 3 R__law_pick :=
  cap_of F sc__law_pick gm b mono__law_pick len__law_pick hw__law_pick fun cdv A outer s H E hr => ⟨_, (cvs_one (cv_ret (ew_ix (ix_seqK (K := K) rfl) rd_ix (ew_lift (ce_var 1)) (ew_pool (i := 0) C__law_draw hr (ca_cons (ce_lenK (K := K) rfl T (ca_cons (ce_var 1) ca_nil)) ca_nil)))))⟩
abbrev s__law_word : Stmt := topS 32
theorem sc__law_word : FnScope ["pool", "sides", "most", "k"] ["pool", "sides", "most"] (defScope s__law_word) := ⟨rfl, rfl, rfl, by decide +kernel, rfl, by decide +kernel, by decide +kernel⟩
theorem mono__law_word : Mono W__law_word := (mono_ret (monoE_app (monoA_cons (monoE_lc (monoA_rng (monoA_cons (monoE_pool monoR__law_draw) monoA_lift))) monoA_lift)))
theorem ok__law_word (T : Bt mg) (C__law_draw : Cap P w K mg base "_law_draw" 2 R__law_draw) {f : Addr} {fd : FuncData} (F : Fun K "_law_word" "_law_word" s__law_word f fd) (gm : mg "_law_word" = some (.ref f)) (b : Binds K fd ["pool", "sides", "most"] []) : Cap P w K mg base "_law_word" 3 R__law_word :=
  cap_of F sc__law_word gm b mono__law_word len__law_word hw__law_word fun cdv A outer s H E hr => ⟨_, (cvs_one (cv_ret (ew_tuple1K (K := K) rfl T (aw_cons (ew_lc (i := 0) (own := [("k", 3)]) monoT_lift (monoE_pool monoR__law_draw) rfl sc__law_word.nd (iw_range1 rfl T.range (aw_cons (ew_pool (i := 0) C__law_draw hr (ca_cons (ce_op (op_plusK (K := K) rfl) rd_plus (ce_var 2) ce_int) ca_nil)) (aw_lift ca_nil))) (blkOk_by (by kernel_rfl)) (fun _ _ _ _ _ => (cg_name sc__law_word.nd)) gw_name (fun _ _ _ _ _ => (tws_lift cts_nil)) (fun _ _ _ _ _ => (ew_pool (i := 0) C__law_draw hr (ca_cons (ce_var 1) ca_nil)))) (aw_lift ca_nil)))))⟩
abbrev s__law_near : Stmt := topS 33
theorem sc__law_near : FnScope ["sides", "one", "two"] ["sides", "one", "two"] (defScope s__law_near) := ⟨rfl, rfl, rfl, by decide +kernel, rfl, by decide +kernel, by decide +kernel⟩
theorem ok__law_near (T : Bt mg)  {f : Addr} {fd : FuncData} (F : Fun K "_law_near" "_law_near" s__law_near f fd) (gm : mg "_law_near" = some (.ref f)) (b : Binds K fd ["sides", "one", "two"] []) : Cal P w K mg base "_law_near" 1 F__law_near :=
  cal_of F sc__law_near gm b fun cdv A outer s H E hr => ⟨_, (css_one (cs_ret (ce_or (ce_cmp (op_eqDK (K := K) rfl hr.units) rd_eq (ce_op op_mod rd_mod (ce_int1 T (ca_cons (ce_op op_sub rd_sub (ce_var 1) (ce_var 2)) ca_nil)) (ce_var 0)) ce_int) (ce_one (ce_cmp (op_eqDK (K := K) rfl hr.units) rd_eq (ce_op op_mod rd_mod (ce_int1 T (ca_cons (ce_op op_sub rd_sub (ce_var 2) (ce_var 1)) ca_nil)) (ce_var 0)) ce_int)))))⟩
abbrev s__law_column : Stmt := topS 34
theorem sc__law_column : FnScope ["sides", "word", "side", "row", "k", "letter", "weight", "j"] ["sides", "word", "side"] (defScope s__law_column) := ⟨rfl, rfl, rfl, by decide +kernel, rfl, by decide +kernel, by decide +kernel⟩
theorem ok__law_column (T : Bt mg) (C__law_near : Cal P w K mg base "_law_near" 1 F__law_near) {f : Addr} {fd : FuncData} (F : Fun K "_law_column" "_law_column" s__law_column f fd) (gm : mg "_law_column" = some (.ref f)) (b : Binds K fd ["sides", "word", "side"] []) : Cal P w K mg base "_law_column" 2 F__law_column :=
  cal_of F sc__law_column gm b fun cdv A outer s H E hr => ⟨_, (css_cons (cs_own sc__law_column.nd (cl_rep (cl_lst (ca_cons ce_int ca_nil)) (ce_var 0))) (css_cons (cs_put ce_int (ce_var 2)) (css_cons (cs_for rfl PassesOwn.never (ci_range1 rfl T.range (ca_cons (ce_lenK (K := K) rfl T (ca_cons (ce_var 1) ca_nil)) ca_nil)) (cg_name sc__law_column.nd) (css_cons (cs_set sc__law_column.nd (ce_ix (ix_seqK (K := K) rfl) rd_ix (ce_var 1) (ce_op op_sub rd_sub (ce_op op_sub rd_sub (ce_lenK (K := K) rfl T (ca_cons (ce_var 1) ca_nil)) ce_int) (ce_var 4)))) (css_cons (cs_set sc__law_column.nd (ce_frz (ce_ix (ix_seqK (K := K) rfl) rd_ix (ce_var 3) (ce_var 5)))) (css_cons (cs_for rfl PassesOwn.never (ci_range1 rfl T.range (ca_cons (ce_var 0) ca_nil)) (cg_name sc__law_column.nd) (css_one (cs_if (Cw.ct (cw_and (ct_cmp (op_neDK (K := K) rfl hr.units) rd_ne (ce_var 7) (ce_var 5)) (cw_and1 (ct_not (ct_val (ce_callC C__law_near hr (ca_cons (ce_var 0) (ca_cons (ce_var 7) (ca_cons (ce_var 5) ca_nil))))))))) (css_one (cs_set sc__law_column.nd (ce_frz (ce_op op_sub rd_sub (ce_var 6) (ce_ix (ix_seqK (K := K) rfl) rd_ix (ce_var 3) (ce_var 7)))))) css_nil))) (css_one (cs_put (ce_frz (ce_op op_sub rd_sub (ce_ix (ix_seqK (K := K) rfl) rd_ix (ce_var 3) (ce_var 5)) (ce_op op_times rd_times ce_int (ce_var 6)))) (ce_var 5))))))) (css_one (cs_ret (ce_var 3))))))⟩
abbrev s__law_shorter : Stmt := topS 35
theorem sc__law_shorter : FnScope ["sides", "word", "side", "x"] ["sides", "word", "side"] (defScope s__law_shorter) := ⟨rfl, rfl, rfl, by decide +kernel, rfl, by decide +kernel, by decide +kernel⟩
theorem ok__law_shorter (T : Bt mg) (C__law_column : Cal P w K mg base "_law_column" 2 F__law_column) {f : Addr} {fd : FuncData} (F : Fun K "_law_shorter" "_law_shorter" s__law_shorter f fd) (gm : mg "_law_shorter" = some (.ref f)) (b : Binds K fd ["sides", "word", "side"] []) : Cal P w K mg base "_law_shorter" 3 F__law_shorter :=
  cal_of F sc__law_shorter gm b fun cdv A outer s H E hr => ⟨_, (css_one (cs_ret (ce_cmp (op_eqDK (K := K) rfl hr.units) rd_eq (ce_lenK (K := K) rfl T (ca_cons (Cl.ce (cl_lc (own := [("x", 3)]) rfl sc__law_shorter.nd (ci_seqK (K := K) rfl (ce_callC C__law_column hr (ca_cons (ce_var 0) (ca_cons (ce_var 1) (ca_cons (ce_var 2) ca_nil))))) (blkOk_by (by kernel_rfl)) (fun _ _ _ _ _ => (cg_name sc__law_shorter.nd)) gw_name (fun _ _ _ _ _ => (cts_one (ct_cmp op_gt rd_cmpI (ce_var 3) ce_int))) (fun _ _ _ _ _ => (ce_var 3)))) ca_nil)) ce_int)))⟩
abbrev s__law_form : Stmt := topS 36
theorem sc__law_form : FnScope ["sides", "word", "found", "rest", "k", "first", "side"] ["sides", "word"] (defScope s__law_form) := ⟨rfl, rfl, rfl, by decide +kernel, rfl, by decide +kernel, by decide +kernel⟩
theorem ok__law_form (T : Bt mg) (C__law_shorter : Cal P w K mg base "_law_shorter" 3 F__law_shorter) {f : Addr} {fd : FuncData} (F : Fun K "_law_form" "_law_form" s__law_form f fd) (gm : mg "_law_form" = some (.ref f)) (b : Binds K fd ["sides", "word"] []) : Cal P w K mg base "_law_form" 4 F__law_form :=
  cal_of F sc__law_form gm b fun cdv A outer s H E hr => ⟨_, (css_cons (cs_parC rfl (cl_lst ca_nil) (ce_revLK (K := K) rfl (ce_list1K (K := K) rfl T (ca_cons (ce_var 1) ca_nil))) (cg_name sc__law_form.nd) (cg_name sc__law_form.nd)) (css_cons (cs_for rfl PassesOwn.never (ci_range1 rfl T.range (ca_cons (ce_op (op_plusK (K := K) rfl) rd_plus (ce_lenK (K := K) rfl T (ca_cons (ce_var 1) ca_nil)) ce_int) ca_nil)) (cg_name sc__law_form.nd) (css_cons (cs_setLc (own := [("side", 6)]) rfl sc__law_form.nd (ci_range1 rfl T.range (ca_cons (ce_var 0) ca_nil)) (blkOk_by (by kernel_rfl)) (fun _ _ _ _ _ => (cg_name sc__law_form.nd)) gw_name (fun _ _ _ _ _ => (cts_one (ct_val (ce_callC C__law_shorter hr (ca_cons (ce_var 0) (ca_cons (ce_var 3) (ca_cons (ce_var 6) ca_nil))))))) (fun _ _ _ _ _ => (ce_var 6))) (css_one (cs_if (ct_cmp (op_neDK (K := K) rfl hr.units) rd_ne (ce_var 5) (cl_lst ca_nil).ce) (css_cons (cs_append (ce_ix (ix_seqK (K := K) rfl) rd_ix (ce_var 5) ce_int)) (css_one (cs_set sc__law_form.nd (ce_op (op_plusK (K := K) rfl) rd_plus (ce_var 3) (cl_lst (ca_cons (ce_ix (ix_seqK (K := K) rfl) rd_ix (ce_var 5) ce_int) ca_nil)).ce)))) css_nil)))) (css_one (cs_ret (ce_tuple1K (K := K) rfl T (ca_cons (ce_var 2) ca_nil))))))⟩
abbrev s__law_cell : Stmt := topS 37
theorem sc__law_cell : FnScope ["pool", "sides", "most"] ["pool", "sides", "most"] (defScope s__law_cell) := ⟨rfl, rfl, rfl, by decide +kernel, rfl, by decide +kernel, by decide +kernel⟩
theorem mono__law_cell : Mono W__law_cell := (mono_ret (monoE_app (monoA_cons monoE_lift (monoA_cons (monoE_pool monoR__law_word) monoA_lift))))
theorem ok__law_cell (T : Bt mg) (C__law_word : Cap P w K mg base "_law_word" 3 R__law_word) (C__law_form : Cal P w K mg base "_law_form" 4 F__law_form) {f : Addr} {fd : FuncData} (F : Fun K "_law_cell" "_law_cell" s__law_cell f fd) (gm : mg "_law_cell" = some (.ref f)) (b : Binds K fd ["pool", "sides", "most"] []) : Cap P w K mg base "_law_cell" 5 R__law_cell :=
  cap_of F sc__law_cell gm b mono__law_cell len__law_cell hw__law_cell fun cdv A outer s H E hr => ⟨_, (cvs_one (cv_ret (ew_callC C__law_form hr (aw_cons (ew_lift (ce_var 1)) (aw_cons (ew_pool (i := 0) C__law_word hr (ca_cons (ce_var 1) (ca_cons (ce_var 2) ca_nil))) (aw_lift ca_nil))))))⟩
abbrev s_law : Stmt := topS 38
theorem sc_law : FnScope ["script", "pool", "sides", "motion", "cell", "every", "many", "grown_v", "rings", "lone", "two", "side", "pair"] ["script"] (defScope s_law) := ⟨rfl, rfl, rfl, by decide +kernel, rfl, by decide +kernel, by decide +kernel⟩
theorem mono_law : Mono W_law := (mono_seq (mono_set (monoE_bin monoE_lift (monoE_pool monoR__law_draw))) (mono_seq (mono_set (monoE_tup (monoA_cons (monoE_pool monoR__law_cell) (monoA_cons (monoE_pool monoR__law_pick) monoA_lift)))) (mono_seq mono_lift (mono_seq mono_lift (mono_seq (mono_set (monoE_pool monoR__law_draw)) (mono_seq mono_lift (mono_seq (mono_if (mono_ret monoE_lift) mono_nx) (mono_seq mono_lift (mono_seq (mono_if (mono_ret monoE_lift) mono_nx) (mono_seq (mono_if (mono_ret monoE_lift) mono_nx) (mono_seq mono_lift (mono_seq (mono_if (mono_ret monoE_lift) mono_nx) (mono_seq mono_lift (mono_seq (mono_if (mono_ret monoE_lift) mono_nx) (mono_seq (mono_set (monoE_pool monoR__law_draw)) (mono_seq mono_lift (mono_seq (mono_if (mono_ret monoE_lift) mono_nx) (mono_ret monoE_lift))))))))))))))))))
theorem ok_law (T : Bt mg) (C__law_same : Cal P w K mg base "_law_same" 9 (F__law_same 8)) (C_fate : Cal P w K mg base "fate" 8 F_fate) (C_beat : Cal P w K mg base "beat" 7 F_beat) (C__law_form : Cal P w K mg base "_law_form" 4 F__law_form) (C__law_draw : Cap P w K mg base "_law_draw" 2 R__law_draw) (C_beats : Cal P w K mg base "beats" 8 F_beats) (C_moved_figure : Cal P w K mg base "moved_figure" 7 F_moved_figure) (C_cells_at : Cal P w K mg base "cells_at" 3 F_cells_at) (C_ring : Cal P w K mg base "ring" 1 F_ring) (C_ball : Cal P w K mg base "ball" 2 F_ball) (C_round_ball : Cal P w K mg base "round_ball" 4 F_round_ball) (C__law_cell : Cap P w K mg base "_law_cell" 5 R__law_cell) (C__law_pick : Cap P w K mg base "_law_pick" 3 R__law_pick) (C_turns : Cal P w K mg base "turns" 1 F_turns) {fp : Addr} {fdp : FuncData} (Np : FnOk P w K mg base CX0 1 fp fdp ["script"] (spNew K)) (gmp : mg "_law_pool" = some (.ref fp)) (kpp : PySem.W.keepIn K (.ref fp) = true) (bp : Binds K fdp ["script"] []) (hw_law : ∀ (p : Addr) (es : List D), PoolOk es → W_law (startL 11 p es) fun o => ∃ ρ', o = .rt (.bool true) ρ') {f : Addr} {fd : FuncData} (F : Fun K "law" "law" s_law f fd) : FnOk P w K mg base CX0 10 f fd ["script"] (spLaw K) :=
  law_ok F sc_law mono_law (fun cdv A outer s H E hr => by
    have REST : ∃ t, Cvs (cxOf CX0 P w K mg base ["script", "pool", "sides", "motion", "cell", "every", "many", "grown_v", "rings", "lone", "two", "side", "pair"] "law" (defScope s_law) f cdv A outer s H E).nox ((defBody s_law).drop 1) t W_law := ⟨_, (cvs_cons (mono_set (monoE_bin monoE_lift (monoE_pool monoR__law_draw))) (cv_set sc_law.nd (ew_op (op_plusK (K := K) rfl) rd_plus (ew_lift ce_int) (ew_pool (i := 1) C__law_draw hr (ca_cons ce_int ca_nil)))) (cvs_cons (mono_set (monoE_tup (monoA_cons (monoE_pool monoR__law_cell) (monoA_cons (monoE_pool monoR__law_pick) monoA_lift)))) (cv_set sc_law.nd (ew_tup (aw_cons (ew_pool (i := 1) C__law_cell hr (ca_cons (ce_var 2) (ca_cons ce_int ca_nil))) (aw_cons (ew_pool (i := 1) C__law_pick hr (ca_cons (ce_callC C_turns hr (ca_cons (ce_var 2) ca_nil)) ca_nil)) (aw_lift ca_nil))))) (cvs_cons mono_lift (cv_lift (cs_set sc_law.nd (ce_ix (ix_seqK (K := K) rfl) rd_ix (ce_var 3) ce_int))) (cvs_cons mono_lift (cv_lift (cs_set sc_law.nd (ce_tupRg rfl rfl T.tuple (crg_2 rfl T.range ce_int (ce_op (op_plusK (K := K) rfl) rd_plus (ce_var 2) ce_int))))) (cvs_cons (mono_set (monoE_pool monoR__law_draw)) (cv_set sc_law.nd (ew_pool (i := 1) C__law_draw hr (ca_cons ce_int ca_nil))) (cvs_cons mono_lift (cv_lift (cs_set sc_law.nd (ce_callC C_beats hr (ca_cons (ce_var 2) (ca_cons (ce_tup (ca_cons (ce_var 5) (ca_cons (ce_tupRg rfl rfl T.tuple (crg_1 rfl T.range (ce_op (op_plusK (K := K) rfl) rd_plus (ce_var 2) ce_int))) ca_nil))) (ca_cons (ce_tup (ca_cons (ce_var 4) ca_nil)) (ca_cons (ce_var 6) ca_nil))))))) (cvs_cons (mono_if (mono_ret monoE_lift) mono_nx) (cv_if (ct_not (ct_val (ce_callC C__law_same hr (ca_cons (cl_lst (ca_cons (ce_var 7) (ca_cons (ce_lenK (K := K) rfl T (ca_cons (ce_var 7) ca_nil)) ca_nil))).ce (ca_cons (cl_lst (ca_cons (ce_callC C_moved_figure hr (ca_cons (ce_var 2) (ca_cons (ce_var 3) (ca_cons (ce_callC C_round_ball hr (ca_cons (ce_var 2) (ca_cons (ce_var 6) ca_nil))) ca_nil)))) (ca_cons (ce_callC C_ball hr (ca_cons (ce_var 2) (ca_cons (ce_var 6) ca_nil))) ca_nil))).ce ca_nil))))) (cvs_one (cv_ret (ew_lift ce_bl))) cvs_nil) (cvs_cons mono_lift (cv_lift (cs_set sc_law.nd (ce_callC C_beats hr (ca_cons (ce_var 2) (ca_cons (ce_tup (ca_cons (ce_var 5) (ca_cons (ce_tup ca_nil) ca_nil))) (ca_cons (ce_tup (ca_cons (ce_var 4) ca_nil)) (ca_cons (ce_var 6) ca_nil))))))) (cvs_cons (mono_if (mono_ret monoE_lift) mono_nx) (cv_if (Cw.ct (cw_and (ct_cmp op_lt rd_cmpI (ce_var 6) ce_int) (cw_and1 (ct_not (ct_val (ce_callC C__law_same hr (ca_cons (ce_var 8) (ca_cons (ce_callC C_moved_figure hr (ca_cons (ce_var 2) (ca_cons (ce_var 3) (ca_cons (ce_tuple1K (K := K) rfl T (ca_cons (ce_callC C_cells_at hr (ca_cons (ce_var 2) (ca_cons (ce_var 6) ca_nil))) ca_nil)) ca_nil)))) ca_nil)))))))) (cvs_one (cv_ret (ew_lift ce_bl))) cvs_nil) (cvs_cons (mono_if (mono_ret monoE_lift) mono_nx) (cv_if (Cw.ct (cw_and (ct_cmp (op_eqDK (K := K) rfl hr.units) rd_eq (ce_var 6) ce_int) (cw_and1 (ct_cmp (op_neDK (K := K) rfl hr.units) rd_ne (ce_lenK (K := K) rfl T (ca_cons (ce_var 8) ca_nil)) (ce_op (op_plusK (K := K) rfl) rd_plus (ce_callC C_ring hr (ca_cons (ce_var 2) (ca_cons ce_int ca_nil))) ce_int))))) (cvs_one (cv_ret (ew_lift ce_bl))) cvs_nil) (cvs_cons mono_lift (cv_lift (cs_set sc_law.nd (ce_callC C_beats hr (ca_cons (ce_var 2) (ca_cons (ce_tup (ca_cons (ce_tup (ca_cons ce_int ca_nil)) (ca_cons (ce_tup ca_nil) ca_nil))) (ca_cons (ce_tup (ca_cons (ce_var 4) ca_nil)) (ca_cons ce_int ca_nil))))))) (cvs_cons (mono_if (mono_ret monoE_lift) mono_nx) (cv_if (Cw.ct (cw_or (ct_cmp (op_neDK (K := K) rfl hr.units) rd_ne (ce_lenK (K := K) rfl T (ca_cons (ce_var 9) ca_nil)) (ce_op op_times rd_times (ce_var 2) (ce_op op_sub rd_sub (ce_var 2) ce_int))) (cw_or1 (ct_cmp (op_neDK (K := K) rfl hr.units) rd_ne (ce_lenK (K := K) rfl T (ca_cons (ce_callC C_beats hr (ca_cons (ce_var 2) (ca_cons (ce_tup (ca_cons (ce_tup (ca_cons ce_int ca_nil)) (ca_cons (ce_tup ca_nil) ca_nil))) (ca_cons (ce_tup (ca_cons (ce_var 4) ca_nil)) (ca_cons ce_int ca_nil))))) ca_nil)) ce_int)))) (cvs_one (cv_ret (ew_lift ce_bl))) cvs_nil) (cvs_cons mono_lift (cv_lift (cs_set sc_law.nd (ce_callC C_beats hr (ca_cons (ce_var 2) (ca_cons (ce_tup (ca_cons (ce_tup (ca_cons ce_int ca_nil)) (ca_cons (ce_tup ca_nil) ca_nil))) (ca_cons (ce_callC C_moved_figure hr (ca_cons (ce_var 2) (ca_cons (ce_var 3) (ca_cons (ce_tuple1K (K := K) rfl T (ca_cons (ce_callC C_cells_at hr (ca_cons (ce_var 2) (ca_cons ce_int ca_nil))) ca_nil)) ca_nil)))) (ca_cons ce_int ca_nil))))))) (cvs_cons (mono_if (mono_ret monoE_lift) mono_nx) (cv_if (ct_cmp (op_neDK (K := K) rfl hr.units) rd_ne (ce_lenK (K := K) rfl T (ca_cons (ce_var 10) ca_nil)) (ce_var 2)) (cvs_one (cv_ret (ew_lift ce_bl))) cvs_nil) (cvs_cons (mono_set (monoE_pool monoR__law_draw)) (cv_set sc_law.nd (ew_pool (i := 1) C__law_draw hr (ca_cons (ce_var 2) ca_nil))) (cvs_cons mono_lift (cv_lift (cs_set sc_law.nd (ce_tuple1K (K := K) rfl T (ca_cons (ce_sorted1K (K := K) rfl T hr (ca_cons (cl_lst (ca_cons (ce_var 4) (ca_cons (ce_callC C__law_form hr (ca_cons (ce_var 2) (ca_cons (ce_op (op_plusK (K := K) rfl) rd_plus (ce_var 4) (ce_tup (ca_cons (ce_var 11) ca_nil))) ca_nil))) ca_nil))).ce ca_nil)) ca_nil)))) (cvs_cons (mono_if (mono_ret monoE_lift) mono_nx) (cv_if (ct_not (ct_val (ce_callC C__law_same hr (ca_cons (cl_lst (ca_cons (ce_callC C_beat hr (ca_cons (ce_var 2) (ca_cons (ce_tup (ca_cons (ce_tup (ca_cons ce_int ca_nil)) (ca_cons (ce_tup (ca_cons ce_int ca_nil)) ca_nil))) (ca_cons (ce_var 12) ca_nil)))) (ca_cons (ce_callC C_fate hr (ca_cons (ce_var 2) (ca_cons (ce_tup (ca_cons (ce_tup (ca_cons ce_int ca_nil)) (ca_cons (ce_tup (ca_cons ce_int ca_nil)) ca_nil))) (ca_cons (ce_var 12) (ca_cons ce_int ca_nil))))) (ca_cons (ce_callC C_fate hr (ca_cons (ce_var 2) (ca_cons (ce_tup (ca_cons (ce_tup (ca_cons ce_int ca_nil)) (ca_cons (ce_tup (ca_cons ce_int ca_nil)) ca_nil))) (ca_cons (ce_tup (ca_cons (ce_var 4) ca_nil)) (ca_cons ce_int ca_nil))))) (ca_cons (ce_callC C_beat hr (ca_cons (ce_var 2) (ca_cons (ce_tup (ca_cons (ce_tup (ca_cons ce_int ca_nil)) (ca_cons (ce_tup (ca_cons ce_int ca_nil)) ca_nil))) (ca_cons (ce_tup (ca_cons (ce_var 4) ca_nil)) ca_nil)))) ca_nil))))).ce (ca_cons (cl_lst (ca_cons (ce_var 12) (ca_cons (ce_tup (ca_cons ce_int (ca_cons ce_int ca_nil))) (ca_cons (ce_tup (ca_cons ce_int (ca_cons ce_int ca_nil))) (ca_cons (ce_tup ca_nil) ca_nil))))).ce ca_nil))))) (cvs_one (cv_ret (ew_lift ce_bl))) cvs_nil) (cvs_one (cv_ret (ew_lift (ce_callC C__law_same hr (ca_cons (ce_callC C_fate hr (ca_cons (ce_var 2) (ca_cons (ce_tup (ca_cons (ce_var 5) (ca_cons (ce_tupRg rfl rfl T.tuple (crg_1 rfl T.range (ce_op (op_plusK (K := K) rfl) rd_plus (ce_var 2) ce_int))) ca_nil))) (ca_cons (ce_tup (ca_cons (ce_var 4) ca_nil)) (ca_cons ce_int ca_nil))))) (ca_cons ce_non ca_nil)))))))))))))))))))))))⟩
    obtain ⟨t2, REST⟩ := REST
    exact ⟨_, pss_cons (ps_set sc_law.nd rfl (by first | exact Or.inl rfl | exact Or.inr rfl) (pe_call Np (hr.mono (by decide)) rfl gmp kpp bp .nil pass0 (pa_cons (pe_var rfl (.inl rfl)) pa_nil))) REST.ps, REST.so⟩) hw_law
end
end Wd

set_option Elab.async false
set_option linter.all false
set_option maxRecDepth 100000
set_option maxHeartbeats 4000000
set_option autoImplicit false
open PySem L2 in
theorem Wd.all_mk {l : PySem.W.OpenLaw} {w : World} {K : PySem.W.Frag} {h : Heap} {mg : Str → Option Value} {fa : Addr} (X : K.In h) (G : h.Ns mainGlobals mg) (hfa : mg "law" = some (.ref fa))
    {f1 : Addr} {od1 an1 : Option Addr} {sl1 : Array (Option Value)} {oc1 kV1 dc1 pm1 cd1 ct1 : Value}
    {f2 : Addr} {od2 an2 : Option Addr} {sl2 : Array (Option Value)} {oc2 kV2 dc2 pm2 cd2 ct2 : Value}
    {f3 : Addr} {od3 an3 : Option Addr} {sl3 : Array (Option Value)} {oc3 kV3 dc3 pm3 cd3 ct3 : Value}
    {f4 : Addr} {od4 an4 : Option Addr} {sl4 : Array (Option Value)} {oc4 kV4 dc4 pm4 cd4 ct4 : Value}
    {f5 : Addr} {od5 an5 : Option Addr} {sl5 : Array (Option Value)} {oc5 kV5 dc5 pm5 cd5 ct5 : Value}
    {f6 : Addr} {od6 an6 : Option Addr} {sl6 : Array (Option Value)} {oc6 kV6 dc6 pm6 cd6 ct6 : Value}
    {f7 : Addr} {od7 an7 : Option Addr} {sl7 : Array (Option Value)} {oc7 kV7 dc7 pm7 cd7 ct7 : Value}
    {f9 : Addr} {od9 an9 : Option Addr} {sl9 : Array (Option Value)} {oc9 kV9 dc9 pm9 cd9 ct9 : Value}
    {f10 : Addr} {od10 an10 : Option Addr} {sl10 : Array (Option Value)} {oc10 kV10 dc10 pm10 cd10 ct10 : Value}
    {f11 : Addr} {od11 an11 : Option Addr} {sl11 : Array (Option Value)} {oc11 kV11 dc11 pm11 cd11 ct11 : Value}
    {f12 : Addr} {od12 an12 : Option Addr} {sl12 : Array (Option Value)} {oc12 kV12 dc12 pm12 cd12 ct12 : Value}
    {f13 : Addr} {od13 an13 : Option Addr} {sl13 : Array (Option Value)} {oc13 kV13 dc13 pm13 cd13 ct13 : Value}
    {f15 : Addr} {od15 an15 : Option Addr} {sl15 : Array (Option Value)} {oc15 kV15 dc15 pm15 cd15 ct15 : Value}
    {f16 : Addr} {od16 an16 : Option Addr} {sl16 : Array (Option Value)} {oc16 kV16 dc16 pm16 cd16 ct16 : Value}
    {f17 : Addr} {od17 an17 : Option Addr} {sl17 : Array (Option Value)} {oc17 kV17 dc17 pm17 cd17 ct17 : Value}
    {f18 : Addr} {od18 an18 : Option Addr} {sl18 : Array (Option Value)} {oc18 kV18 dc18 pm18 cd18 ct18 : Value}
    {f20 : Addr} {od20 an20 : Option Addr} {sl20 : Array (Option Value)} {oc20 kV20 dc20 pm20 cd20 ct20 : Value}
    {f21 : Addr} {od21 an21 : Option Addr} {sl21 : Array (Option Value)} {oc21 kV21 dc21 pm21 cd21 ct21 : Value}
    {f22 : Addr} {od22 an22 : Option Addr} {sl22 : Array (Option Value)} {oc22 kV22 dc22 pm22 cd22 ct22 : Value}
    {f23 : Addr} {od23 an23 : Option Addr} {sl23 : Array (Option Value)} {oc23 kV23 dc23 pm23 cd23 ct23 : Value}
    {f25 : Addr} {od25 an25 : Option Addr} {sl25 : Array (Option Value)} {oc25 kV25 dc25 pm25 cd25 ct25 : Value}
    {f27 : Addr} {od27 an27 : Option Addr} {sl27 : Array (Option Value)} {oc27 kV27 dc27 pm27 cd27 ct27 : Value}
    {f28 : Addr} {od28 an28 : Option Addr} {sl28 : Array (Option Value)} {oc28 kV28 dc28 pm28 cd28 ct28 : Value}
    {f29 : Addr} {od29 an29 : Option Addr} {sl29 : Array (Option Value)} {oc29 kV29 dc29 pm29 cd29 ct29 : Value}
    {f30 : Addr} {od30 an30 : Option Addr} {sl30 : Array (Option Value)} {oc30 kV30 dc30 pm30 cd30 ct30 : Value}
    {f31 : Addr} {od31 an31 : Option Addr} {sl31 : Array (Option Value)} {oc31 kV31 dc31 pm31 cd31 ct31 : Value}
    {f32 : Addr} {od32 an32 : Option Addr} {sl32 : Array (Option Value)} {oc32 kV32 dc32 pm32 cd32 ct32 : Value}
    {f33 : Addr} {od33 an33 : Option Addr} {sl33 : Array (Option Value)} {oc33 kV33 dc33 pm33 cd33 ct33 : Value}
    {f34 : Addr} {od34 an34 : Option Addr} {sl34 : Array (Option Value)} {oc34 kV34 dc34 pm34 cd34 ct34 : Value}
    {f35 : Addr} {od35 an35 : Option Addr} {sl35 : Array (Option Value)} {oc35 kV35 dc35 pm35 cd35 ct35 : Value}
    {f36 : Addr} {od36 an36 : Option Addr} {sl36 : Array (Option Value)} {oc36 kV36 dc36 pm36 cd36 ct36 : Value}
    {f37 : Addr} {od37 an37 : Option Addr} {sl37 : Array (Option Value)} {oc37 kV37 dc37 pm37 cd37 ct37 : Value}
    {f38 : Addr} {od38 an38 : Option Addr} {sl38 : Array (Option Value)} {oc38 kV38 dc38 pm38 cd38 ct38 : Value}
    (a1 : PySem.W.nsIn K mainGlobals "meet" = some (some (.ref f1))) (l1 : K.lookup f1 = some ⟨oc1, od1, .func (PySem.W.fnOf "meet" "meet" (defArgs Wd.s_meet) (defBody Wd.s_meet) (defScope Wd.s_meet) .none kV1 dc1 pm1 an1 cd1 ct1), sl1⟩) (c1 : PySem.W.codeIn K cd1 "meet" = true) (k1 : PySem.W.keepIn K (.ref f1) = true)
    (a2 : PySem.W.nsIn K mainGlobals "first_sides" = some (some (.ref f2))) (l2 : K.lookup f2 = some ⟨oc2, od2, .func (PySem.W.fnOf "first_sides" "first_sides" (defArgs Wd.s_first_sides) (defBody Wd.s_first_sides) (defScope Wd.s_first_sides) .none kV2 dc2 pm2 an2 cd2 ct2), sl2⟩) (c2 : PySem.W.codeIn K cd2 "first_sides" = true) (k2 : PySem.W.keepIn K (.ref f2) = true)
    (a3 : PySem.W.nsIn K mainGlobals "in_form" = some (some (.ref f3))) (l3 : K.lookup f3 = some ⟨oc3, od3, .func (PySem.W.fnOf "in_form" "in_form" (defArgs Wd.s_in_form) (defBody Wd.s_in_form) (defScope Wd.s_in_form) .none kV3 dc3 pm3 an3 cd3 ct3), sl3⟩) (c3 : PySem.W.codeIn K cd3 "in_form" = true) (k3 : PySem.W.keepIn K (.ref f3) = true)
    (a4 : PySem.W.nsIn K mainGlobals "crossed" = some (some (.ref f4))) (l4 : K.lookup f4 = some ⟨oc4, od4, .func (PySem.W.fnOf "crossed" "crossed" (defArgs Wd.s_crossed) (defBody Wd.s_crossed) (defScope Wd.s_crossed) .none kV4 dc4 pm4 an4 cd4 ct4), sl4⟩) (c4 : PySem.W.codeIn K cd4 "crossed" = true) (k4 : PySem.W.keepIn K (.ref f4) = true)
    (a5 : PySem.W.nsIn K mainGlobals "times" = some (some (.ref f5))) (l5 : K.lookup f5 = some ⟨oc5, od5, .func (PySem.W.fnOf "times" "times" (defArgs Wd.s_times) (defBody Wd.s_times) (defScope Wd.s_times) .none kV5 dc5 pm5 an5 cd5 ct5), sl5⟩) (c5 : PySem.W.codeIn K cd5 "times" = true) (k5 : PySem.W.keepIn K (.ref f5) = true)
    (a6 : PySem.W.nsIn K mainGlobals "neighbours" = some (some (.ref f6))) (l6 : K.lookup f6 = some ⟨oc6, od6, .func (PySem.W.fnOf "neighbours" "neighbours" (defArgs Wd.s_neighbours) (defBody Wd.s_neighbours) (defScope Wd.s_neighbours) .none kV6 dc6 pm6 an6 cd6 ct6), sl6⟩) (c6 : PySem.W.codeIn K cd6 "neighbours" = true) (k6 : PySem.W.keepIn K (.ref f6) = true)
    (a7 : PySem.W.nsIn K mainGlobals "barred_after" = some (some (.ref f7))) (l7 : K.lookup f7 = some ⟨oc7, od7, .func (PySem.W.fnOf "barred_after" "barred_after" (defArgs Wd.s_barred_after) (defBody Wd.s_barred_after) (defScope Wd.s_barred_after) .none kV7 dc7 pm7 an7 cd7 ct7), sl7⟩) (c7 : PySem.W.codeIn K cd7 "barred_after" = true) (k7 : PySem.W.keepIn K (.ref f7) = true)
    (a9 : PySem.W.nsIn K mainGlobals "turns" = some (some (.ref f9))) (l9 : K.lookup f9 = some ⟨oc9, od9, .func (PySem.W.fnOf "turns" "turns" (defArgs Wd.s_turns) (defBody Wd.s_turns) (defScope Wd.s_turns) .none kV9 dc9 pm9 an9 cd9 ct9), sl9⟩) (c9 : PySem.W.codeIn K cd9 "turns" = true) (k9 : PySem.W.keepIn K (.ref f9) = true)
    (a10 : PySem.W.nsIn K mainGlobals "moved" = some (some (.ref f10))) (l10 : K.lookup f10 = some ⟨oc10, od10, .func (PySem.W.fnOf "moved" "moved" (defArgs Wd.s_moved) (defBody Wd.s_moved) (defScope Wd.s_moved) .none kV10 dc10 pm10 an10 cd10 ct10), sl10⟩) (c10 : PySem.W.codeIn K cd10 "moved" = true) (k10 : PySem.W.keepIn K (.ref f10) = true)
    (a11 : PySem.W.nsIn K mainGlobals "figure" = some (some (.ref f11))) (l11 : K.lookup f11 = some ⟨oc11, od11, .func (PySem.W.fnOf "figure" "figure" (defArgs Wd.s_figure) (defBody Wd.s_figure) (defScope Wd.s_figure) .none kV11 dc11 pm11 an11 cd11 ct11), sl11⟩) (c11 : PySem.W.codeIn K cd11 "figure" = true) (k11 : PySem.W.keepIn K (.ref f11) = true)
    (a12 : PySem.W.nsIn K mainGlobals "moved_figure" = some (some (.ref f12))) (l12 : K.lookup f12 = some ⟨oc12, od12, .func (PySem.W.fnOf "moved_figure" "moved_figure" (defArgs Wd.s_moved_figure) (defBody Wd.s_moved_figure) (defScope Wd.s_moved_figure) .none kV12 dc12 pm12 an12 cd12 ct12), sl12⟩) (c12 : PySem.W.codeIn K cd12 "moved_figure" = true) (k12 : PySem.W.keepIn K (.ref f12) = true)
    (a13 : PySem.W.nsIn K mainGlobals "grown" = some (some (.ref f13))) (l13 : K.lookup f13 = some ⟨oc13, od13, .func (PySem.W.fnOf "grown" "grown" (defArgs Wd.s_grown) (defBody Wd.s_grown) (defScope Wd.s_grown) .none kV13 dc13 pm13 an13 cd13 ct13), sl13⟩) (c13 : PySem.W.codeIn K cd13 "grown" = true) (k13 : PySem.W.keepIn K (.ref f13) = true)
    (a15 : PySem.W.nsIn K mainGlobals "living" = some (some (.ref f15))) (l15 : K.lookup f15 = some ⟨oc15, od15, .func (PySem.W.fnOf "living" "living" (defArgs Wd.s_living) (defBody Wd.s_living) (defScope Wd.s_living) .none kV15 dc15 pm15 an15 cd15 ct15), sl15⟩) (c15 : PySem.W.codeIn K cd15 "living" = true) (k15 : PySem.W.keepIn K (.ref f15) = true)
    (a16 : PySem.W.nsIn K mainGlobals "beat" = some (some (.ref f16))) (l16 : K.lookup f16 = some ⟨oc16, od16, .func (PySem.W.fnOf "beat" "beat" (defArgs Wd.s_beat) (defBody Wd.s_beat) (defScope Wd.s_beat) .none kV16 dc16 pm16 an16 cd16 ct16), sl16⟩) (c16 : PySem.W.codeIn K cd16 "beat" = true) (k16 : PySem.W.keepIn K (.ref f16) = true)
    (a17 : PySem.W.nsIn K mainGlobals "beats" = some (some (.ref f17))) (l17 : K.lookup f17 = some ⟨oc17, od17, .func (PySem.W.fnOf "beats" "beats" (defArgs Wd.s_beats) (defBody Wd.s_beats) (defScope Wd.s_beats) .none kV17 dc17 pm17 an17 cd17 ct17), sl17⟩) (c17 : PySem.W.codeIn K cd17 "beats" = true) (k17 : PySem.W.keepIn K (.ref f17) = true)
    (a18 : PySem.W.nsIn K mainGlobals "fate" = some (some (.ref f18))) (l18 : K.lookup f18 = some ⟨oc18, od18, .func (PySem.W.fnOf "fate" "fate" (defArgs Wd.s_fate) (defBody Wd.s_fate) (defScope Wd.s_fate) .none kV18 dc18 pm18 an18 cd18 ct18), sl18⟩) (c18 : PySem.W.codeIn K cd18 "fate" = true) (k18 : PySem.W.keepIn K (.ref f18) = true)
    (a20 : PySem.W.nsIn K mainGlobals "machine" = some (some (.ref f20))) (l20 : K.lookup f20 = some ⟨oc20, od20, .func (PySem.W.fnOf "machine" "machine" (defArgs Wd.s_machine) (defBody Wd.s_machine) (defScope Wd.s_machine) .none kV20 dc20 pm20 an20 cd20 ct20), sl20⟩) (c20 : PySem.W.codeIn K cd20 "machine" = true) (k20 : PySem.W.keepIn K (.ref f20) = true)
    (a21 : PySem.W.nsIn K mainGlobals "ring" = some (some (.ref f21))) (l21 : K.lookup f21 = some ⟨oc21, od21, .func (PySem.W.fnOf "ring" "ring" (defArgs Wd.s_ring) (defBody Wd.s_ring) (defScope Wd.s_ring) .none kV21 dc21 pm21 an21 cd21 ct21), sl21⟩) (c21 : PySem.W.codeIn K cd21 "ring" = true) (k21 : PySem.W.keepIn K (.ref f21) = true)
    (a22 : PySem.W.nsIn K mainGlobals "ball" = some (some (.ref f22))) (l22 : K.lookup f22 = some ⟨oc22, od22, .func (PySem.W.fnOf "ball" "ball" (defArgs Wd.s_ball) (defBody Wd.s_ball) (defScope Wd.s_ball) .none kV22 dc22 pm22 an22 cd22 ct22), sl22⟩) (c22 : PySem.W.codeIn K cd22 "ball" = true) (k22 : PySem.W.keepIn K (.ref f22) = true)
    (a23 : PySem.W.nsIn K mainGlobals "cells_at" = some (some (.ref f23))) (l23 : K.lookup f23 = some ⟨oc23, od23, .func (PySem.W.fnOf "cells_at" "cells_at" (defArgs Wd.s_cells_at) (defBody Wd.s_cells_at) (defScope Wd.s_cells_at) .none kV23 dc23 pm23 an23 cd23 ct23), sl23⟩) (c23 : PySem.W.codeIn K cd23 "cells_at" = true) (k23 : PySem.W.keepIn K (.ref f23) = true)
    (a25 : PySem.W.nsIn K mainGlobals "round_ball" = some (some (.ref f25))) (l25 : K.lookup f25 = some ⟨oc25, od25, .func (PySem.W.fnOf "round_ball" "round_ball" (defArgs Wd.s_round_ball) (defBody Wd.s_round_ball) (defScope Wd.s_round_ball) .none kV25 dc25 pm25 an25 cd25 ct25), sl25⟩) (c25 : PySem.W.codeIn K cd25 "round_ball" = true) (k25 : PySem.W.keepIn K (.ref f25) = true)
    (a27 : PySem.W.nsIn K mainGlobals "_law_same" = some (some (.ref f27))) (l27 : K.lookup f27 = some ⟨oc27, od27, .func (PySem.W.fnOf "_law_same" "_law_same" (defArgs Wd.s__law_same) (defBody Wd.s__law_same) (defScope Wd.s__law_same) .none kV27 dc27 pm27 an27 cd27 ct27), sl27⟩) (c27 : PySem.W.codeIn K cd27 "_law_same" = true) (k27 : PySem.W.keepIn K (.ref f27) = true)
    (a28 : PySem.W.nsIn K mainGlobals "_law_pool" = some (some (.ref f28))) (l28 : K.lookup f28 = some ⟨oc28, od28, .func (PySem.W.fnOf "_law_pool" "_law_pool" (defArgs Wd.s__law_pool) (defBody Wd.s__law_pool) (defScope Wd.s__law_pool) .none kV28 dc28 pm28 an28 cd28 ct28), sl28⟩) (c28 : PySem.W.codeIn K cd28 "_law_pool" = true) (k28 : PySem.W.keepIn K (.ref f28) = true)
    (a29 : PySem.W.nsIn K mainGlobals "_law_spread" = some (some (.ref f29))) (l29 : K.lookup f29 = some ⟨oc29, od29, .func (PySem.W.fnOf "_law_spread" "_law_spread" (defArgs Wd.s__law_spread) (defBody Wd.s__law_spread) (defScope Wd.s__law_spread) .none kV29 dc29 pm29 an29 cd29 ct29), sl29⟩) (c29 : PySem.W.codeIn K cd29 "_law_spread" = true) (k29 : PySem.W.keepIn K (.ref f29) = true)
    (a30 : PySem.W.nsIn K mainGlobals "_law_draw" = some (some (.ref f30))) (l30 : K.lookup f30 = some ⟨oc30, od30, .func (PySem.W.fnOf "_law_draw" "_law_draw" (defArgs Wd.s__law_draw) (defBody Wd.s__law_draw) (defScope Wd.s__law_draw) .none kV30 dc30 pm30 an30 cd30 ct30), sl30⟩) (c30 : PySem.W.codeIn K cd30 "_law_draw" = true) (k30 : PySem.W.keepIn K (.ref f30) = true)
    (a31 : PySem.W.nsIn K mainGlobals "_law_pick" = some (some (.ref f31))) (l31 : K.lookup f31 = some ⟨oc31, od31, .func (PySem.W.fnOf "_law_pick" "_law_pick" (defArgs Wd.s__law_pick) (defBody Wd.s__law_pick) (defScope Wd.s__law_pick) .none kV31 dc31 pm31 an31 cd31 ct31), sl31⟩) (c31 : PySem.W.codeIn K cd31 "_law_pick" = true) (k31 : PySem.W.keepIn K (.ref f31) = true)
    (a32 : PySem.W.nsIn K mainGlobals "_law_word" = some (some (.ref f32))) (l32 : K.lookup f32 = some ⟨oc32, od32, .func (PySem.W.fnOf "_law_word" "_law_word" (defArgs Wd.s__law_word) (defBody Wd.s__law_word) (defScope Wd.s__law_word) .none kV32 dc32 pm32 an32 cd32 ct32), sl32⟩) (c32 : PySem.W.codeIn K cd32 "_law_word" = true) (k32 : PySem.W.keepIn K (.ref f32) = true)
    (a33 : PySem.W.nsIn K mainGlobals "_law_near" = some (some (.ref f33))) (l33 : K.lookup f33 = some ⟨oc33, od33, .func (PySem.W.fnOf "_law_near" "_law_near" (defArgs Wd.s__law_near) (defBody Wd.s__law_near) (defScope Wd.s__law_near) .none kV33 dc33 pm33 an33 cd33 ct33), sl33⟩) (c33 : PySem.W.codeIn K cd33 "_law_near" = true) (k33 : PySem.W.keepIn K (.ref f33) = true)
    (a34 : PySem.W.nsIn K mainGlobals "_law_column" = some (some (.ref f34))) (l34 : K.lookup f34 = some ⟨oc34, od34, .func (PySem.W.fnOf "_law_column" "_law_column" (defArgs Wd.s__law_column) (defBody Wd.s__law_column) (defScope Wd.s__law_column) .none kV34 dc34 pm34 an34 cd34 ct34), sl34⟩) (c34 : PySem.W.codeIn K cd34 "_law_column" = true) (k34 : PySem.W.keepIn K (.ref f34) = true)
    (a35 : PySem.W.nsIn K mainGlobals "_law_shorter" = some (some (.ref f35))) (l35 : K.lookup f35 = some ⟨oc35, od35, .func (PySem.W.fnOf "_law_shorter" "_law_shorter" (defArgs Wd.s__law_shorter) (defBody Wd.s__law_shorter) (defScope Wd.s__law_shorter) .none kV35 dc35 pm35 an35 cd35 ct35), sl35⟩) (c35 : PySem.W.codeIn K cd35 "_law_shorter" = true) (k35 : PySem.W.keepIn K (.ref f35) = true)
    (a36 : PySem.W.nsIn K mainGlobals "_law_form" = some (some (.ref f36))) (l36 : K.lookup f36 = some ⟨oc36, od36, .func (PySem.W.fnOf "_law_form" "_law_form" (defArgs Wd.s__law_form) (defBody Wd.s__law_form) (defScope Wd.s__law_form) .none kV36 dc36 pm36 an36 cd36 ct36), sl36⟩) (c36 : PySem.W.codeIn K cd36 "_law_form" = true) (k36 : PySem.W.keepIn K (.ref f36) = true)
    (a37 : PySem.W.nsIn K mainGlobals "_law_cell" = some (some (.ref f37))) (l37 : K.lookup f37 = some ⟨oc37, od37, .func (PySem.W.fnOf "_law_cell" "_law_cell" (defArgs Wd.s__law_cell) (defBody Wd.s__law_cell) (defScope Wd.s__law_cell) .none kV37 dc37 pm37 an37 cd37 ct37), sl37⟩) (c37 : PySem.W.codeIn K cd37 "_law_cell" = true) (k37 : PySem.W.keepIn K (.ref f37) = true)
    (a38 : PySem.W.nsIn K mainGlobals "law" = some (some (.ref f38))) (l38 : K.lookup f38 = some ⟨oc38, od38, .func (PySem.W.fnOf "law" "law" (defArgs Wd.s_law) (defBody Wd.s_law) (defScope Wd.s_law) .none kV38 dc38 pm38 an38 cd38 ct38), sl38⟩) (c38 : PySem.W.codeIn K cd38 "law" = true) (k38 : PySem.W.keepIn K (.ref f38) = true)
    (z_len : PySem.W.nsIn K mainGlobals "len" = some none)
    (z_range : PySem.W.nsIn K mainGlobals "range" = some none)
    (z_tuple : PySem.W.nsIn K mainGlobals "tuple" = some none)
    (z_list : PySem.W.nsIn K mainGlobals "list" = some none)
    (z_sorted : PySem.W.nsIn K mainGlobals "sorted" = some none)
    (z_set : PySem.W.nsIn K mainGlobals "set" = some none)
    (z_sum : PySem.W.nsIn K mainGlobals "sum" = some none)
    (z_min : PySem.W.nsIn K mainGlobals "min" = some none)
    (z_max : PySem.W.nsIn K mainGlobals "max" = some none)
    (z_all : PySem.W.nsIn K mainGlobals "all" = some none)
    (z_any : PySem.W.nsIn K mainGlobals "any" = some none)
    (z_int : PySem.W.nsIn K mainGlobals "int" = some none)
    (z_isinstance : PySem.W.nsIn K mainGlobals "isinstance" = some none)
    (z_bool : PySem.W.nsIn K mainGlobals "bool" = some none)
    (z_str : PySem.W.nsIn K mainGlobals "str" = some none)
    : ∃ fd : FuncData, (∀ (s : Shared) (v : Value), BindsTo s fd ⟨[v], []⟩ [("script", v)]) ∧ ∀ base : Heap, K.In base → base.Ns mainGlobals mg → FnOk PySem.Challenge.pw_widecells_k28_whole_beats_that_begin_wit w K mg base CX0 10 fa fd ["script"] (Wd.spLaw K) := by
  have e := hfa.symm.trans (PySem.W.mg_of X G a38)
  cases e
  have T : Wd.Bt mg := ⟨PySem.W.mg_none_of X G z_len, PySem.W.mg_none_of X G z_range, PySem.W.mg_none_of X G z_tuple, PySem.W.mg_none_of X G z_list, PySem.W.mg_none_of X G z_sorted, PySem.W.mg_none_of X G z_set, PySem.W.mg_none_of X G z_sum, PySem.W.mg_none_of X G z_min, PySem.W.mg_none_of X G z_max, PySem.W.mg_none_of X G z_all, PySem.W.mg_none_of X G z_any, PySem.W.mg_none_of X G z_int, PySem.W.mg_none_of X G z_isinstance, PySem.W.mg_none_of X G z_bool, PySem.W.mg_none_of X G z_str⟩
  have F1 := fun_mk (st := Wd.s_meet) l1 c1 k1
  have b1 := F1.binds (ps := ["sides", "one", "two"]) fun _ _ _ _ _ _ us hl => match us, hl with | [_, _, _], _ => rfl
  have F2 := fun_mk (st := Wd.s_first_sides) l2 c2 k2
  have b2 := F2.binds (ps := ["sides", "word"]) fun _ _ _ _ _ _ us hl => match us, hl with | [_, _], _ => rfl
  have F3 := fun_mk (st := Wd.s_in_form) l3 c3 k3
  have b3 := F3.binds (ps := ["sides", "word"]) fun _ _ _ _ _ _ us hl => match us, hl with | [_, _], _ => rfl
  have F4 := fun_mk (st := Wd.s_crossed) l4 c4 k4
  have b4 := F4.binds (ps := ["sides", "cell", "side"]) fun _ _ _ _ _ _ us hl => match us, hl with | [_, _, _], _ => rfl
  have F5 := fun_mk (st := Wd.s_times) l5 c5 k5
  have b5 := F5.binds (ps := ["sides", "one", "two"]) fun _ _ _ _ _ _ us hl => match us, hl with | [_, _, _], _ => rfl
  have F6 := fun_mk (st := Wd.s_neighbours) l6 c6 k6
  have b6 := F6.binds (ps := ["sides", "cell"]) fun _ _ _ _ _ _ us hl => match us, hl with | [_, _], _ => rfl
  have F7 := fun_mk (st := Wd.s_barred_after) l7 c7 k7
  have b7 := F7.binds (ps := ["sides", "barred", "side"]) fun _ _ _ _ _ _ us hl => match us, hl with | [_, _, _], _ => rfl
  have F9 := fun_mk (st := Wd.s_turns) l9 c9 k9
  have b9 := F9.binds (ps := ["sides"]) fun _ _ _ _ _ _ us hl => match us, hl with | [_], _ => rfl
  have F10 := fun_mk (st := Wd.s_moved) l10 c10 k10
  have b10 := F10.binds (ps := ["sides", "motion", "cell"]) fun _ _ _ _ _ _ us hl => match us, hl with | [_, _, _], _ => rfl
  have F11 := fun_mk (st := Wd.s_figure) l11 c11 k11
  have b11 := F11.binds (ps := ["cells"]) fun _ _ _ _ _ _ us hl => match us, hl with | [_], _ => rfl
  have F12 := fun_mk (st := Wd.s_moved_figure) l12 c12 k12
  have b12 := F12.binds (ps := ["sides", "motion", "cells"]) fun _ _ _ _ _ _ us hl => match us, hl with | [_, _, _], _ => rfl
  have F13 := fun_mk (st := Wd.s_grown) l13 c13 k13
  have b13 := F13.binds (ps := ["sides", "cells"]) fun _ _ _ _ _ _ us hl => match us, hl with | [_, _], _ => rfl
  have F15 := fun_mk (st := Wd.s_living) l15 c15 k15
  have b15 := F15.binds (ps := ["sides", "town", "cell"]) fun _ _ _ _ _ _ us hl => match us, hl with | [_, _, _], _ => rfl
  have F16 := fun_mk (st := Wd.s_beat) l16 c16 k16
  have b16 := F16.binds (ps := ["sides", "rule", "town"]) fun _ _ _ _ _ _ us hl => match us, hl with | [_, _, _], _ => rfl
  have F17 := fun_mk (st := Wd.s_beats) l17 c17 k17
  have b17 := F17.binds (ps := ["sides", "rule", "town", "many"]) fun _ _ _ _ _ _ us hl => match us, hl with | [_, _, _, _], _ => rfl
  have F18 := fun_mk (st := Wd.s_fate) l18 c18 k18
  have b18 := F18.binds (ps := ["sides", "rule", "town", "most"]) fun _ _ _ _ _ _ us hl => match us, hl with | [_, _, _, _], _ => rfl
  have F20 := fun_mk (st := Wd.s_machine) l20 c20 k20
  have b20 := F20.binds (ps := ["sides"]) fun _ _ _ _ _ _ us hl => match us, hl with | [_], _ => rfl
  have F21 := fun_mk (st := Wd.s_ring) l21 c21 k21
  have b21 := F21.binds (ps := ["sides", "far"]) fun _ _ _ _ _ _ us hl => match us, hl with | [_, _], _ => rfl
  have F22 := fun_mk (st := Wd.s_ball) l22 c22 k22
  have b22 := F22.binds (ps := ["sides", "far"]) fun _ _ _ _ _ _ us hl => match us, hl with | [_, _], _ => rfl
  have F23 := fun_mk (st := Wd.s_cells_at) l23 c23 k23
  have b23 := F23.binds (ps := ["sides", "far"]) fun _ _ _ _ _ _ us hl => match us, hl with | [_, _], _ => rfl
  have F25 := fun_mk (st := Wd.s_round_ball) l25 c25 k25
  have b25 := F25.binds (ps := ["sides", "far"]) fun _ _ _ _ _ _ us hl => match us, hl with | [_, _], _ => rfl
  have F27 := fun_mk (st := Wd.s__law_same) l27 c27 k27
  have b27 := F27.binds (ps := ["actual", "due"]) fun _ _ _ _ _ _ us hl => match us, hl with | [_, _], _ => rfl
  have F28 := fun_mk (st := Wd.s__law_pool) l28 c28 k28
  have b28 := F28.binds (ps := ["script"]) fun _ _ _ _ _ _ us hl => match us, hl with | [_], _ => rfl
  have F29 := fun_mk (st := Wd.s__law_spread) l29 c29 k29
  have b29 := F29.binds (ps := ["cell"]) fun _ _ _ _ _ _ us hl => match us, hl with | [_], _ => rfl
  have F30 := fun_mk (st := Wd.s__law_draw) l30 c30 k30
  have b30 := F30.binds (ps := ["pool", "many"]) fun _ _ _ _ _ _ us hl => match us, hl with | [_, _], _ => rfl
  have F31 := fun_mk (st := Wd.s__law_pick) l31 c31 k31
  have b31 := F31.binds (ps := ["pool", "items"]) fun _ _ _ _ _ _ us hl => match us, hl with | [_, _], _ => rfl
  have F32 := fun_mk (st := Wd.s__law_word) l32 c32 k32
  have b32 := F32.binds (ps := ["pool", "sides", "most"]) fun _ _ _ _ _ _ us hl => match us, hl with | [_, _, _], _ => rfl
  have F33 := fun_mk (st := Wd.s__law_near) l33 c33 k33
  have b33 := F33.binds (ps := ["sides", "one", "two"]) fun _ _ _ _ _ _ us hl => match us, hl with | [_, _, _], _ => rfl
  have F34 := fun_mk (st := Wd.s__law_column) l34 c34 k34
  have b34 := F34.binds (ps := ["sides", "word", "side"]) fun _ _ _ _ _ _ us hl => match us, hl with | [_, _, _], _ => rfl
  have F35 := fun_mk (st := Wd.s__law_shorter) l35 c35 k35
  have b35 := F35.binds (ps := ["sides", "word", "side"]) fun _ _ _ _ _ _ us hl => match us, hl with | [_, _, _], _ => rfl
  have F36 := fun_mk (st := Wd.s__law_form) l36 c36 k36
  have b36 := F36.binds (ps := ["sides", "word"]) fun _ _ _ _ _ _ us hl => match us, hl with | [_, _], _ => rfl
  have F37 := fun_mk (st := Wd.s__law_cell) l37 c37 k37
  have b37 := F37.binds (ps := ["pool", "sides", "most"]) fun _ _ _ _ _ _ us hl => match us, hl with | [_, _, _], _ => rfl
  have F38 := fun_mk (st := Wd.s_law) l38 c38 k38
  refine ⟨PySem.W.fnOf "law" "law" (defArgs Wd.s_law) (defBody Wd.s_law) (defScope Wd.s_law) .none kV38 dc38 pm38 an38 cd38 ct38, fun s v => .of_eq rfl, fun base _ _ => ?_⟩
  have C_meet : Wd.Cal PySem.Challenge.pw_widecells_k28_whole_beats_that_begin_wit w K mg base "meet" 1 Wd.F_meet := Wd.ok_meet T  F1 (PySem.W.mg_of X G a1) b1
  have C_first_sides : Wd.Cal PySem.Challenge.pw_widecells_k28_whole_beats_that_begin_wit w K mg base "first_sides" 2 Wd.F_first_sides := Wd.ok_first_sides T C_meet F2 (PySem.W.mg_of X G a2) b2
  have C_in_form : Wd.Cal PySem.Challenge.pw_widecells_k28_whole_beats_that_begin_wit w K mg base "in_form" 3 Wd.F_in_form := Wd.ok_in_form T C_first_sides F3 (PySem.W.mg_of X G a3) b3
  have C_crossed : Wd.Cal PySem.Challenge.pw_widecells_k28_whole_beats_that_begin_wit w K mg base "crossed" 4 Wd.F_crossed := Wd.ok_crossed T C_in_form C_meet F4 (PySem.W.mg_of X G a4) b4
  have C_times : Wd.Cal PySem.Challenge.pw_widecells_k28_whole_beats_that_begin_wit w K mg base "times" 5 Wd.F_times := Wd.ok_times T C_crossed F5 (PySem.W.mg_of X G a5) b5
  have C_neighbours : Wd.Cal PySem.Challenge.pw_widecells_k28_whole_beats_that_begin_wit w K mg base "neighbours" 5 Wd.F_neighbours := Wd.ok_neighbours T C_crossed F6 (PySem.W.mg_of X G a6) b6
  have C_barred_after : Wd.Cal PySem.Challenge.pw_widecells_k28_whole_beats_that_begin_wit w K mg base "barred_after" 1 Wd.F_barred_after := Wd.ok_barred_after T  F7 (PySem.W.mg_of X G a7) b7
  have C_turns : Wd.Cal PySem.Challenge.pw_widecells_k28_whole_beats_that_begin_wit w K mg base "turns" 1 Wd.F_turns := Wd.ok_turns T  F9 (PySem.W.mg_of X G a9) b9
  have C_moved : Wd.Cal PySem.Challenge.pw_widecells_k28_whole_beats_that_begin_wit w K mg base "moved" 6 Wd.F_moved := Wd.ok_moved T C_times C_in_form F10 (PySem.W.mg_of X G a10) b10
  have C_figure : Wd.Cal PySem.Challenge.pw_widecells_k28_whole_beats_that_begin_wit w K mg base "figure" 1 Wd.F_figure := Wd.ok_figure T  F11 (PySem.W.mg_of X G a11) b11
  have C_moved_figure : Wd.Cal PySem.Challenge.pw_widecells_k28_whole_beats_that_begin_wit w K mg base "moved_figure" 7 Wd.F_moved_figure := Wd.ok_moved_figure T C_figure C_moved F12 (PySem.W.mg_of X G a12) b12
  have C_grown : Wd.Cal PySem.Challenge.pw_widecells_k28_whole_beats_that_begin_wit w K mg base "grown" 5 Wd.F_grown := Wd.ok_grown T C_figure C_crossed F13 (PySem.W.mg_of X G a13) b13
  have C_living : Wd.Cal PySem.Challenge.pw_widecells_k28_whole_beats_that_begin_wit w K mg base "living" 6 Wd.F_living := Wd.ok_living T C_neighbours F15 (PySem.W.mg_of X G a15) b15
  have C_beat : Wd.Cal PySem.Challenge.pw_widecells_k28_whole_beats_that_begin_wit w K mg base "beat" 7 Wd.F_beat := Wd.ok_beat T C_figure C_grown C_living F16 (PySem.W.mg_of X G a16) b16
  have C_beats : Wd.Cal PySem.Challenge.pw_widecells_k28_whole_beats_that_begin_wit w K mg base "beats" 8 Wd.F_beats := Wd.ok_beats T C_beat F17 (PySem.W.mg_of X G a17) b17
  have C_fate : Wd.Cal PySem.Challenge.pw_widecells_k28_whole_beats_that_begin_wit w K mg base "fate" 8 Wd.F_fate := Wd.ok_fate T C_beat F18 (PySem.W.mg_of X G a18) b18
  have C_machine : Wd.Cal PySem.Challenge.pw_widecells_k28_whole_beats_that_begin_wit w K mg base "machine" 2 Wd.F_machine := Wd.ok_machine T C_barred_after F20 (PySem.W.mg_of X G a20) b20
  have C_ring : Wd.Cal PySem.Challenge.pw_widecells_k28_whole_beats_that_begin_wit w K mg base "ring" 1 Wd.F_ring := Wd.ok_ring T  F21 (PySem.W.mg_of X G a21) b21
  have C_ball : Wd.Cal PySem.Challenge.pw_widecells_k28_whole_beats_that_begin_wit w K mg base "ball" 2 Wd.F_ball := Wd.ok_ball T C_ring F22 (PySem.W.mg_of X G a22) b22
  have C_cells_at : Wd.Cal PySem.Challenge.pw_widecells_k28_whole_beats_that_begin_wit w K mg base "cells_at" 3 Wd.F_cells_at := Wd.ok_cells_at T C_machine F23 (PySem.W.mg_of X G a23) b23
  have C_round_ball : Wd.Cal PySem.Challenge.pw_widecells_k28_whole_beats_that_begin_wit w K mg base "round_ball" 4 Wd.F_round_ball := Wd.ok_round_ball T C_figure C_cells_at F25 (PySem.W.mg_of X G a25) b25
  have C__law_same : Wd.Cal PySem.Challenge.pw_widecells_k28_whole_beats_that_begin_wit w K mg base "_law_same" 9 (Wd.F__law_same 8) := Wd.ok__law_same T  F27 (PySem.W.mg_of X G a27) b27 8
  have Np : FnOk PySem.Challenge.pw_widecells_k28_whole_beats_that_begin_wit w K mg base CX0 1 f28 _ ["script"] (Wd.spNew K) := Wd.ok__law_pool T F28
  have C__law_spread : Wd.Cal PySem.Challenge.pw_widecells_k28_whole_beats_that_begin_wit w K mg base "_law_spread" 1 Wd.F__law_spread := Wd.ok__law_spread T  F29 (PySem.W.mg_of X G a29) b29
  have C__law_draw : Wd.Cap PySem.Challenge.pw_widecells_k28_whole_beats_that_begin_wit w K mg base "_law_draw" 2 Wd.R__law_draw := Wd.ok__law_draw T C__law_spread F30 (PySem.W.mg_of X G a30) b30
  have C__law_pick : Wd.Cap PySem.Challenge.pw_widecells_k28_whole_beats_that_begin_wit w K mg base "_law_pick" 3 Wd.R__law_pick := Wd.ok__law_pick T C__law_draw F31 (PySem.W.mg_of X G a31) b31
  have C__law_word : Wd.Cap PySem.Challenge.pw_widecells_k28_whole_beats_that_begin_wit w K mg base "_law_word" 3 Wd.R__law_word := Wd.ok__law_word T C__law_draw F32 (PySem.W.mg_of X G a32) b32
  have C__law_near : Wd.Cal PySem.Challenge.pw_widecells_k28_whole_beats_that_begin_wit w K mg base "_law_near" 1 Wd.F__law_near := Wd.ok__law_near T  F33 (PySem.W.mg_of X G a33) b33
  have C__law_column : Wd.Cal PySem.Challenge.pw_widecells_k28_whole_beats_that_begin_wit w K mg base "_law_column" 2 Wd.F__law_column := Wd.ok__law_column T C__law_near F34 (PySem.W.mg_of X G a34) b34
  have C__law_shorter : Wd.Cal PySem.Challenge.pw_widecells_k28_whole_beats_that_begin_wit w K mg base "_law_shorter" 3 Wd.F__law_shorter := Wd.ok__law_shorter T C__law_column F35 (PySem.W.mg_of X G a35) b35
  have C__law_form : Wd.Cal PySem.Challenge.pw_widecells_k28_whole_beats_that_begin_wit w K mg base "_law_form" 4 Wd.F__law_form := Wd.ok__law_form T C__law_shorter F36 (PySem.W.mg_of X G a36) b36
  have C__law_cell : Wd.Cap PySem.Challenge.pw_widecells_k28_whole_beats_that_begin_wit w K mg base "_law_cell" 5 Wd.R__law_cell := Wd.ok__law_cell T C__law_word C__law_form F37 (PySem.W.mg_of X G a37) b37
  exact Wd.ok_law T C__law_same C_fate C_beat C__law_form C__law_draw C_beats C_moved_figure C_cells_at C_ring C_ball C_round_ball C__law_cell C__law_pick C_turns Np (PySem.W.mg_of X G a28) k28 b28 Wd.hw_law F38
open PySem L2 in
theorem Wd.walk {l : PySem.W.OpenLaw} {q : Program} {loose : List Str} {XP : (Str → Option Value) → Heap → Prop} {YP : World → Heap → Prop} {d : DefRec} {K : Params → PySem.W.Frag} (hn : l.most = some 63) (hdf : d.params.defaults = [])
    (hY : ∀ (w : World) (h : Heap), YP w h → (K w.params).In h)
    (F : ∀ (w : World) (mg : Str → Option Value) (fa : Addr) (h : Heap), (K w.params).In h → h.Ns mainGlobals mg → mg d.name = some (.ref fa) →
      ∃ fd : FuncData, (∀ (s : Shared) (u : Value), BindsTo s fd ⟨[u], []⟩ [("script", u)]) ∧ ∀ base : Heap, (K w.params).In base → base.Ns mainGlobals mg → FnOk l.prog w (K w.params) mg base CX0 10 fa fd ["script"] (Wd.spLaw (K w.params))) :
    PySem.W.WalkO q loose XP YP l.row.toRowW d [] (fun f vs => PySem.call f vs) :=
  L2.walk_of (n := 63) (k := 10) (x := "script") (CX := fun _ => CX0) (sp := fun w => Wd.spLaw (K w.params)) hn (by decide) hdf ⟨rfl, by decide, by decide⟩ hY F (fun _ _ a ns hl _ hS => ⟨a, ns, rfl, hS, hl, fun _ => rfl⟩) fun _ _ _ _ _ z => z
open PySem PySem.W PyProof.Rows in
set_option maxRecDepth 100000 in
set_option maxHeartbeats 0 in
theorem PySem.Challenge.cw_widecells_k28_whole_beats_that_begin_wit_holds : PySem.Challenge.rw_widecells_k28_whole_beats_that_begin_wit.Holds := by
  w_on; o_law; k_head; (case hw => w_witness2)
  k_fill
  refine Wd.walk (l := PySem.Challenge.rw_widecells_k28_whole_beats_that_begin_wit) rfl rfl (fun w h Y => PySem.W.kIn_of Y) ?F
  case F =>
    intro w mg fa h KX G hmg
    refine' Wd.all_mk (l := PySem.Challenge.rw_widecells_k28_whole_beats_that_begin_wit) KX G hmg ?a1 ?l1 ?c1 ?k1 ?a2 ?l2 ?c2 ?k2 ?a3 ?l3 ?c3 ?k3 ?a4 ?l4 ?c4 ?k4 ?a5 ?l5 ?c5 ?k5 ?a6 ?l6 ?c6 ?k6 ?a7 ?l7 ?c7 ?k7 ?a9 ?l9 ?c9 ?k9 ?a10 ?l10 ?c10 ?k10 ?a11 ?l11 ?c11 ?k11 ?a12 ?l12 ?c12 ?k12 ?a13 ?l13 ?c13 ?k13 ?a15 ?l15 ?c15 ?k15 ?a16 ?l16 ?c16 ?k16 ?a17 ?l17 ?c17 ?k17 ?a18 ?l18 ?c18 ?k18 ?a20 ?l20 ?c20 ?k20 ?a21 ?l21 ?c21 ?k21 ?a22 ?l22 ?c22 ?k22 ?a23 ?l23 ?c23 ?k23 ?a25 ?l25 ?c25 ?k25 ?a27 ?l27 ?c27 ?k27 ?a28 ?l28 ?c28 ?k28 ?a29 ?l29 ?c29 ?k29 ?a30 ?l30 ?c30 ?k30 ?a31 ?l31 ?c31 ?k31 ?a32 ?l32 ?c32 ?k32 ?a33 ?l33 ?c33 ?k33 ?a34 ?l34 ?c34 ?k34 ?a35 ?l35 ?c35 ?k35 ?a36 ?l36 ?c36 ?k36 ?a37 ?l37 ?c37 ?k37 ?a38 ?l38 ?c38 ?k38 ?z_len ?z_range ?z_tuple ?z_list ?z_sorted ?z_set ?z_sum ?z_min ?z_max ?z_all ?z_any ?z_int ?z_isinstance ?z_bool ?z_str
    (case a1 => k_is)
    (case l1 => k_is)
    (case c1 => k_is)
    (case k1 => k_is)
    (case a2 => k_is)
    (case l2 => k_is)
    (case c2 => k_is)
    (case k2 => k_is)
    (case a3 => k_is)
    (case l3 => k_is)
    (case c3 => k_is)
    (case k3 => k_is)
    (case a4 => k_is)
    (case l4 => k_is)
    (case c4 => k_is)
    (case k4 => k_is)
    (case a5 => k_is)
    (case l5 => k_is)
    (case c5 => k_is)
    (case k5 => k_is)
    (case a6 => k_is)
    (case l6 => k_is)
    (case c6 => k_is)
    (case k6 => k_is)
    (case a7 => k_is)
    (case l7 => k_is)
    (case c7 => k_is)
    (case k7 => k_is)
    (case a9 => k_is)
    (case l9 => k_is)
    (case c9 => k_is)
    (case k9 => k_is)
    (case a10 => k_is)
    (case l10 => k_is)
    (case c10 => k_is)
    (case k10 => k_is)
    (case a11 => k_is)
    (case l11 => k_is)
    (case c11 => k_is)
    (case k11 => k_is)
    (case a12 => k_is)
    (case l12 => k_is)
    (case c12 => k_is)
    (case k12 => k_is)
    (case a13 => k_is)
    (case l13 => k_is)
    (case c13 => k_is)
    (case k13 => k_is)
    (case a15 => k_is)
    (case l15 => k_is)
    (case c15 => k_is)
    (case k15 => k_is)
    (case a16 => k_is)
    (case l16 => k_is)
    (case c16 => k_is)
    (case k16 => k_is)
    (case a17 => k_is)
    (case l17 => k_is)
    (case c17 => k_is)
    (case k17 => k_is)
    (case a18 => k_is)
    (case l18 => k_is)
    (case c18 => k_is)
    (case k18 => k_is)
    (case a20 => k_is)
    (case l20 => k_is)
    (case c20 => k_is)
    (case k20 => k_is)
    (case a21 => k_is)
    (case l21 => k_is)
    (case c21 => k_is)
    (case k21 => k_is)
    (case a22 => k_is)
    (case l22 => k_is)
    (case c22 => k_is)
    (case k22 => k_is)
    (case a23 => k_is)
    (case l23 => k_is)
    (case c23 => k_is)
    (case k23 => k_is)
    (case a25 => k_is)
    (case l25 => k_is)
    (case c25 => k_is)
    (case k25 => k_is)
    (case a27 => k_is)
    (case l27 => k_is)
    (case c27 => k_is)
    (case k27 => k_is)
    (case a28 => k_is)
    (case l28 => k_is)
    (case c28 => k_is)
    (case k28 => k_is)
    (case a29 => k_is)
    (case l29 => k_is)
    (case c29 => k_is)
    (case k29 => k_is)
    (case a30 => k_is)
    (case l30 => k_is)
    (case c30 => k_is)
    (case k30 => k_is)
    (case a31 => k_is)
    (case l31 => k_is)
    (case c31 => k_is)
    (case k31 => k_is)
    (case a32 => k_is)
    (case l32 => k_is)
    (case c32 => k_is)
    (case k32 => k_is)
    (case a33 => k_is)
    (case l33 => k_is)
    (case c33 => k_is)
    (case k33 => k_is)
    (case a34 => k_is)
    (case l34 => k_is)
    (case c34 => k_is)
    (case k34 => k_is)
    (case a35 => k_is)
    (case l35 => k_is)
    (case c35 => k_is)
    (case k35 => k_is)
    (case a36 => k_is)
    (case l36 => k_is)
    (case c36 => k_is)
    (case k36 => k_is)
    (case a37 => k_is)
    (case l37 => k_is)
    (case c37 => k_is)
    (case k37 => k_is)
    (case a38 => k_is)
    (case l38 => k_is)
    (case c38 => k_is)
    (case k38 => k_is)
    (case z_len => k_is)
    (case z_range => k_is)
    (case z_tuple => k_is)
    (case z_list => k_is)
    (case z_sorted => k_is)
    (case z_set => k_is)
    (case z_sum => k_is)
    (case z_min => k_is)
    (case z_max => k_is)
    (case z_all => k_is)
    (case z_any => k_is)
    (case z_int => k_is)
    (case z_isinstance => k_is)
    (case z_bool => k_is)
    (case z_str => k_is)
