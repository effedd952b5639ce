import PyProof.Rows.All
import Wide.All
import OpenK.AllK
import Wide.FinOn
import HandS.ForMost
import HandS.ForExc
import HandS.Wide
import HandS.WideBits
import HandS.Deep
import KE.DataEq
import PyProof.ReprLen
import HandS.Walk
import HandS.Defaults
import HandS.DictTup
import HandS.TupLen
import PyProof.DictMoreH
import HandS.IsInst
import HandS.Conv
import HandS.Zip
import HandS.More
import HandS.Text
import KE.SortData
import KE.KDictSum
import PySem.Challenge.RW_deepfall_k41_spans_and_crossings
set_option Elab.async false
set_option linter.all false
set_option maxRecDepth 100000
set_option maxHeartbeats 4000000
/-! Dl: data over the hand layer. A value is told as a tree (D); what may change is told by address (O, Mu). -/
namespace Dl
open PySem PySem.Spec PyProof.Rows L2
abbrev Frg := PySem.W.Frag

/-- data: scalars, references, lists and tuples that change no more -/
inductive D where
  | non | bl (b : Bool) | int (i : Int) | str (x : Str) | ty (n : String) | «at» (a : Addr)
  | lst (xs : List D) | tup (xs : List D)

/-- what stands at an address that may change -/
inductive O where
  | lst (xs : List D)
  | dK (kvs : List (Key × D))
  | dT (kvs : List (List Key × D))
  | ins (C : Addr) (fs : List (Str × D))
  | pot
  | ro (xs : List D)
  /-- a dict while it is walked -/
  | fz (o : Obj) (ks : List (Key × V)) (kvs : List (Key × D))
  | fzT (o : Obj) (ks : List (List Key × V)) (kvs : List (List Key × D))

abbrev Mu := Addr → Option O
abbrev Ms := Addr → Prop
def MD (μ : Mu) : Ms := fun a => ∃ o, μ a = some o
def put (μ : Mu) (a : Addr) (o : O) : Mu := fun b => if b = a then some o else μ b
theorem put_same {μ : Mu} {a : Addr} {o : O} : put μ a o a = some o := if_pos rfl
theorem put_ne {μ : Mu} {a b : Addr} {o : O} (h : b ≠ a) : put μ a o b = μ b := if_neg h
theorem put_put {μ : Mu} {a : Addr} {o u : O} : put (put μ a o) a u = put μ a u := by
  funext b
  by_cases h : b = a
  · rw [h, put_same, put_same]
  · rw [put_ne h, put_ne h, put_ne h]
theorem put_self {μ : Mu} {a : Addr} {o : O} (h : μ a = some o) : put μ a o = μ := by
  funext b
  by_cases e : b = a
  · rw [e, put_same, h]
  · rw [put_ne e]
theorem put_comm {μ : Mu} {a b : Addr} {o u : O} (h : a ≠ b) : put (put μ a o) b u = put (put μ b u) a o := by
  funext c
  by_cases e : c = a
  · subst e
    rw [put_ne h, put_same, put_same]
  · by_cases e2 : c = b
    · subst e2
      rw [put_same, put_ne e, put_same]
    · rw [put_ne e2, put_ne e, put_ne e, put_ne e2]

mutual
/-- v stands for the data d -/
def VD (M : Ms) (H : Hp) : D → V → Prop
  | .non, v => v = .non
  | .bl b, v => v = .bl b
  | .int i, v => v = .int i
  | .str x, v => v = .str x
  | .ty n, v => v = .ty n
  | .at a, v => v = .ref a
  | .lst ds, v => ∃ a xs, v = .ref a ∧ (¬ M a ∧ H a = some (.lst xs)) ∧ VDs M H ds xs
  | .tup ds, v => ∃ a xs, v = .ref a ∧ (¬ M a ∧ H a = some (.tup xs)) ∧ VDs M H ds xs
def VDs (M : Ms) (H : Hp) : List D → List V → Prop
  | [], xs => xs = []
  | d :: ds, xs => ∃ v vs, xs = v :: vs ∧ VD M H d v ∧ VDs M H ds vs
end

/-- how a heap may go on -/
structure Step (M : Ms) (H : Hp) (M' : Ms) (H' : Hp) : Prop where
  keep : ∀ a o, ¬ M a → H a = some o → H' a = some o
  grow : ∀ a, M' a → M a ∨ H a = none
theorem Step.refl {M : Ms} {H : Hp} : Step M H M H := ⟨fun _ _ _ h => h, fun _ h => .inl h⟩
theorem Step.trans {M M1 M2 : Ms} {H H1 H2 : Hp} (a : Step M H M1 H1) (b : Step M1 H1 M2 H2) : Step M H M2 H2 where
  keep := fun x o n e => b.keep x o (fun m => (a.grow x m).elim n fun q => by rw [q] at e; cases e) (a.keep x o n e)
  grow := fun x m => by
    rcases b.grow x m with m1 | q
    · exact a.grow x m1
    · by_cases n : M x
      · exact .inl n
      · cases e : H x with
        | none => exact .inr rfl
        | some o => rw [a.keep x o n e] at q; cases q
/-- only what is new was laid -/
theorem Step.ext {M : Ms} {H H' : Hp} (h : ∀ a o, H a = some o → H' a = some o) : Step M H M H' := ⟨fun a o _ e => h a o e, fun _ m => .inl m⟩
theorem Step.new {M : Ms} {H : Hp} {p : Addr} {o : HO} (h : H p = none) : Step M H M (upd H p o) := .ext fun a u e => by
  rw [upd_ne (ne_of_none e h)]
  exact e
theorem Step.newM {μ : Mu} {H : Hp} {p : Addr} {o : HO} {x : O} (h : H p = none) : Step (MD μ) H (MD (put μ p x)) (upd H p o) where
  keep := fun a u _ e => by
    rw [upd_ne (ne_of_none e h)]
    exact e
  grow := fun a ⟨u, e⟩ => by
    by_cases q : a = p
    · subst q
      exact .inr h
    · rw [put_ne q] at e
      exact .inl ⟨u, e⟩
theorem Step.write {μ : Mu} {H : Hp} {p : Addr} {o : HO} {x : O} (h : MD μ p) : Step (MD μ) H (MD (put μ p x)) (upd H p o) where
  keep := fun a u n e => by
    have q : a ≠ p := fun z => n (z ▸ h)
    rw [upd_ne q]
    exact e
  grow := fun a ⟨u, e⟩ => by
    by_cases q : a = p
    · subst q
      exact .inl h
    · rw [put_ne q] at e
      exact .inl ⟨u, e⟩

section
variable {M M' : Ms} {H H' : Hp}
theorem Fz.step {a : Addr} {u : HO} (st : Step M H M' H') (h : ¬ M a ∧ H a = some u) : ¬ M' a ∧ H' a = some u :=
  ⟨fun m => (st.grow a m).elim h.1 fun q => (by rw [h.2] at q; cases q), st.keep a _ h.1 h.2⟩
mutual
theorem VD.step (st : Step M H M' H') : ∀ (d : D) (v : V), VD M H d v → VD M' H' d v
  | .non, _, h => h
  | .bl _, _, h => h
  | .int _, _, h => h
  | .str _, _, h => h
  | .ty _, _, h => h
  | .at _, _, h => h
  | .lst ds, _, ⟨a, xs, e, f, g⟩ => ⟨a, xs, e, Fz.step st f, VDs.step st ds xs g⟩
  | .tup ds, _, ⟨a, xs, e, f, g⟩ => ⟨a, xs, e, Fz.step st f, VDs.step st ds xs g⟩
theorem VDs.step (st : Step M H M' H') : ∀ (ds : List D) (vs : List V), VDs M H ds vs → VDs M' H' ds vs
  | [], _, h => h
  | d :: ds, _, ⟨v, vs, e, f, g⟩ => ⟨v, vs, e, VD.step st d v f, VDs.step st ds vs g⟩
end
theorem VDs.length : ∀ {ds : List D} {vs : List V}, VDs M H ds vs → ds.length = vs.length
  | [], _, h => by rw [show _ = [] from h]; rfl
  | d :: ds, _, ⟨v, vs, e, _, g⟩ => by rw [e, List.length_cons, List.length_cons, VDs.length g]
theorem VDs.get : ∀ {ds : List D} {vs : List V} {i : Nat} {d : D}, VDs M H ds vs → ds[i]? = some d → ∃ v, vs[i]? = some v ∧ VD M H d v
  | [], _, _, _, _, e => by simp at e
  | d :: ds, _, 0, x, ⟨v, vs, e, f, _⟩, q => by
    simp only [List.getElem?_cons_zero, Option.some.injEq] at q
    subst q e
    exact ⟨v, rfl, f⟩
  | d :: ds, _, i + 1, x, ⟨v, vs, e, _, g⟩, q => by
    subst e
    obtain ⟨y, h1, h2⟩ := VDs.get (i := i) g (by simpa using q)
    exact ⟨y, by simpa using h1, h2⟩
theorem VDs.of_get : ∀ {ds : List D} {vs : List V} {i : Nat} {v : V}, VDs M H ds vs → vs[i]? = some v → ∃ d, ds[i]? = some d ∧ VD M H d v := fun {ds vs i v} h e => by
  have hl := h.length
  have hi := (List.getElem?_eq_some_iff.mp e).1
  obtain ⟨d, hd⟩ : ∃ d, ds[i]? = some d := ⟨ds[i]'(by omega), List.getElem?_eq_getElem _⟩
  obtain ⟨y, h1, h2⟩ := h.get hd
  rw [e] at h1
  cases h1
  exact ⟨d, hd, h2⟩
theorem VDs.append : ∀ {ds es : List D} {vs ws : List V}, VDs M H ds vs → VDs M H es ws → VDs M H (ds ++ es) (vs ++ ws)
  | [], _, _, _, h, g => by
    rw [show _ = [] from h]
    exact g
  | d :: ds, _, _, _, ⟨v, vs, e, f, t⟩, g => by
    subst e
    exact ⟨v, _, rfl, f, VDs.append t g⟩
theorem VDs.of_all : ∀ {ds : List D} {vs : List V}, ds.length = vs.length → (∀ (i : Nat) d v, ds[i]? = some d → vs[i]? = some v → VD M H d v) → VDs M H ds vs
  | [], [], _, _ => rfl
  | [], _ :: _, h, _ => by cases h
  | _ :: _, [], h, _ => by cases h
  | d :: ds, v :: vs, h, f => ⟨v, vs, rfl, f 0 d v rfl rfl, VDs.of_all (Nat.succ.inj h) fun i x y e1 e2 => f (i + 1) x y (by simpa using e1) (by simpa using e2)⟩
theorem VDs.iff {ds : List D} {vs : List V} : VDs M H ds vs ↔ ds.length = vs.length ∧ ∀ (i : Nat) d v, ds[i]? = some d → vs[i]? = some v → VD M H d v := by
  constructor
  · intro h
    refine ⟨h.length, fun i d v e1 e2 => ?_⟩
    obtain ⟨w, e3, r⟩ := h.get e1
    rw [e2] at e3
    cases e3
    exact r
  · exact fun h => VDs.of_all h.1 h.2
theorem VDs.take {ds : List D} {vs : List V} (n : Nat) (h : VDs M H ds vs) : VDs M H (ds.take n) (vs.take n) := by
  rw [VDs.iff] at *
  refine ⟨by simp [h.1], fun i d v e1 e2 => ?_⟩
  rw [List.getElem?_take] at e1 e2
  split at e1
  · rename_i q
    rw [if_pos q] at e2
    exact h.2 i d v e1 e2
  · cases e1
theorem VDs.drop {ds : List D} {vs : List V} (n : Nat) (h : VDs M H ds vs) : VDs M H (ds.drop n) (vs.drop n) := by
  rw [VDs.iff] at *
  refine ⟨by simp [h.1], fun i d v e1 e2 => ?_⟩
  rw [List.getElem?_drop] at e1 e2
  exact h.2 _ d v e1 e2
theorem VDs.reverse {ds : List D} {vs : List V} (h : VDs M H ds vs) : VDs M H ds.reverse vs.reverse := by
  have hl := h.length
  rw [VDs.iff] at *
  refine ⟨by simp [h.1], fun i d v e1 e2 => ?_⟩
  have hi : i < ds.length := by simpa using (List.getElem?_eq_some_iff.mp e1).1
  rw [List.getElem?_reverse hi] at e1
  rw [List.getElem?_reverse (by omega)] at e2
  exact h.2 _ d v e1 (by rw [h.1]; exact e2)
theorem VDs.set {ds : List D} {vs : List V} {d : D} {v : V} (i : Nat) (h : VDs M H ds vs) (r : VD M H d v) : VDs M H (ds.set i d) (vs.set i v) := by
  rw [VDs.iff] at *
  refine ⟨by simp [h.1], fun j x y e1 e2 => ?_⟩
  by_cases q : j = i
  · subst q
    have hj : j < ds.length := by simpa using (List.getElem?_eq_some_iff.mp e1).1
    rw [List.getElem?_set_self hj] at e1
    rw [List.getElem?_set_self (by omega)] at e2
    cases e1
    cases e2
    exact r
  · rw [List.getElem?_set_ne (Ne.symm q)] at e1 e2
    exact h.2 j x y e1 e2
theorem VDs.replicate {d : D} {v : V} (r : VD M H d v) : ∀ n : Nat, VDs M H (List.replicate n d) (List.replicate n v)
  | 0 => rfl
  | n + 1 => ⟨v, _, rfl, r, VDs.replicate r n⟩
end

/-! ### what is told by address -/
abbrev KD {κ : Type} (M : Ms) (H : Hp) : List (κ × D) → List (κ × V) → Prop := Paired fun p q => p.1 = q.1 ∧ VD M H p.2 q.2
def PotOk (_ y : Int) : Prop := 0 ≤ y ∧ y < 2147483648
def OH (M : Ms) (H : Hp) (a : Addr) : O → Prop
  | .lst ds => ∃ xs, H a = some (.lst xs) ∧ VDs M H ds xs
  | .dK kvs => ∃ ks, H a = some (.dK ks) ∧ KD M H kvs ks
  | .dT kvs => ∃ ks, H a = some (.dT ks) ∧ KD M H kvs ks
  | .ins C fs => ∃ dx gs, H a = some (.ins C dx gs) ∧ KD M H fs gs
  | .ro ds => ∃ xs, Rd H a (.lst xs) ∧ VDs M H ds xs
  | .fz o ks kvs => H a = some (.frz o (.dK ks)) ∧ KD M H kvs ks
  | .fzT o ks kvs => H a = some (.frz o (.dT ks)) ∧ KD M H kvs ks
  | .pot => ∃ x y, H a = some (.lst [.int x, .int y]) ∧ PotOk x y
def MH (μ : Mu) (H : Hp) : Prop := ∀ a o, μ a = some o → OH (MD μ) H a o
section
variable {M M' : Ms} {H H' : Hp} {μ : Mu}
theorem KD.step {κ : Type} (st : Step M H M' H') : ∀ {xs : List (κ × D)} {ys : List (κ × V)}, KD M H xs ys → KD M' H' xs ys
  | _, _, .nil => .nil
  | _, _, .cons r t => .cons ⟨r.1, VD.step st _ _ r.2⟩ (KD.step st t)
theorem OH.step {a : Addr} {o : O} (st : Step M H M' H') (e : H' a = H a) (h : OH M H a o) : OH M' H' a o := by
  cases o with
  | lst ds => obtain ⟨xs, h1, h2⟩ := h; exact ⟨xs, e.trans h1, VDs.step st _ _ h2⟩
  | dK ds => obtain ⟨xs, h1, h2⟩ := h; exact ⟨xs, e.trans h1, KD.step st h2⟩
  | dT ds => obtain ⟨xs, h1, h2⟩ := h; exact ⟨xs, e.trans h1, KD.step st h2⟩
  | ins C fs => obtain ⟨dx, gs, h1, h2⟩ := h; exact ⟨dx, gs, e.trans h1, KD.step st h2⟩
  | ro ds =>
    obtain ⟨xs, h1, h2⟩ := h
    exact ⟨xs, h1.imp (fun q => e.trans q) fun ⟨ob, q⟩ => ⟨ob, e.trans q⟩, VDs.step st _ _ h2⟩
  | fz o ks kvs => obtain ⟨h1, h2⟩ := h; exact ⟨e.trans h1, KD.step st h2⟩
  | fzT o ks kvs => obtain ⟨h1, h2⟩ := h; exact ⟨e.trans h1, KD.step st h2⟩
  | pot => obtain ⟨x, y, h1, h2⟩ := h; exact ⟨x, y, e.trans h1, h2⟩
theorem OH.there {a : Addr} {o : O} (h : OH M H a o) : ∃ u, H a = some u := by
  cases o with
  | lst ds => obtain ⟨xs, h1, _⟩ := h; exact ⟨_, h1⟩
  | dK ds => obtain ⟨xs, h1, _⟩ := h; exact ⟨_, h1⟩
  | dT ds => obtain ⟨xs, h1, _⟩ := h; exact ⟨_, h1⟩
  | ins C fs => obtain ⟨dx, gs, h1, _⟩ := h; exact ⟨_, h1⟩
  | ro ds =>
    obtain ⟨xs, h1, _⟩ := h
    rcases h1 with h1 | ⟨ob, h1⟩
    · exact ⟨_, h1⟩
    · exact ⟨_, h1⟩
  | fz o ks kvs => exact ⟨_, h.1⟩
  | fzT o ks kvs => exact ⟨_, h.1⟩
  | pot => obtain ⟨x, y, h1, _⟩ := h; exact ⟨_, h1⟩
theorem MH.free (m : MH μ H) {p : Addr} (h : H p = none) : μ p = none := by
  cases e : μ p with
  | none => rfl
  | some o =>
    obtain ⟨u, q⟩ := (m p o e).there
    rw [h] at q
    cases q
theorem MH.ext (m : MH μ H) (h : ∀ a o, H a = some o → H' a = some o) : MH μ H' := fun a o e => by
  obtain ⟨u, q⟩ := (m a o e).there
  exact (m a o e).step (.ext h) ((h a u q).trans q.symm)
theorem MH.newF {p : Addr} {o : HO} (m : MH μ H) (h : H p = none) : MH μ (upd H p o) := m.ext fun a u e => by
  rw [upd_ne (ne_of_none e h)]
  exact e
theorem MH.newM {p : Addr} {o : HO} {x : O} (m : MH μ H) (h : H p = none) (n : OH (MD (put μ p x)) (upd H p o) p x) : MH (put μ p x) (upd H p o) := fun a u e => by
  by_cases q : a = p
  · subst q
    rw [put_same] at e
    cases e
    exact n
  · rw [put_ne q] at e
    exact (m a u e).step (.newM h) (upd_ne q)
theorem MH.write {p : Addr} {o : HO} {x : O} (m : MH μ H) (h : MD μ p) (n : OH (MD (put μ p x)) (upd H p o) p x) : MH (put μ p x) (upd H p o) := fun a u e => by
  by_cases q : a = p
  · subst q
    rw [put_same] at e
    cases e
    exact n
  · rw [put_ne q] at e
    exact (m a u e).step (.write h) (upd_ne q)
end

/-! ### the frame's names -/
abbrev Rho := List (Option D)
/-- where a frame began: what could change then, the heap -/
abbrev Bs := Ms × Hp
/-- the names' values; and the heap has gone on from where the frame began -/
def RS (B : Bs) (M : Ms) (H : Hp) (ρ : Rho) (σ : L2.St) : Prop := ρ.length = σ.length ∧ (∀ (i : Nat) d, ρ[i]? = some (some d) → ∃ v, σ[i]? = some (some v) ∧ VD M H d v) ∧ Step B.1 B.2 M H
section
variable {B : Bs} {M M' : Ms} {H H' : Hp} {ρ : Rho} {σ : L2.St}
theorem RS.step (st : Step M H M' H') (r : RS B M H ρ σ) : RS B M' H' ρ σ := ⟨r.1, fun i d e => by
  obtain ⟨v, e1, q⟩ := r.2.1 i d e
  exact ⟨v, e1, VD.step st _ _ q⟩, r.2.2.trans st⟩
theorem RS.set {d : D} {v : V} (i : Nat) (r : RS B M H ρ σ) (h : VD M H d v) : RS B M H (ρ.set i (some d)) (σ.set i (some v)) := by
  refine ⟨by simp [r.1], fun j x e => ?_, r.2.2⟩
  by_cases q : j = i
  · subst q
    have hj : j < ρ.length := by simpa using (List.getElem?_eq_some_iff.mp e).1
    rw [List.getElem?_set_self hj] at e
    cases e
    exact ⟨v, by rw [List.getElem?_set_self (by rw [← r.1]; exact hj)], h⟩
  · rw [List.getElem?_set_ne (Ne.symm q)] at e
    obtain ⟨y, e1, q1⟩ := r.2.1 j x e
    exact ⟨y, by rw [List.getElem?_set_ne (Ne.symm q)]; exact e1, q1⟩
end

/-! ### expressions -/
abbrev DQ := D → Mu → Prop
abbrev WE := Rho → Mu → DQ → Prop
/-- the wish over data, over values -/
def lft (μ : Mu) (H : Hp) (Q : DQ) : VK := fun v H' => ∃ d μ', Step (MD μ) H (MD μ') H' ∧ MH μ' H' ∧ VD (MD μ') H' d v ∧ Q d μ'
theorem lft.trans {μ μ1 : Mu} {H H1 H2 : Hp} {Q : DQ} {v : V} (st : Step (MD μ) H (MD μ1) H1) (h : lft μ1 H1 Q v H2) : lft μ H Q v H2 := by
  obtain ⟨d, μ', a, b, c, e⟩ := h
  exact ⟨d, μ', st.trans a, b, c, e⟩
def up (B : Bs) (w : WE) : TE := fun σ H Q => ∃ ρ μ QD, RS B (MD μ) H ρ σ ∧ MH μ H ∧ w ρ μ QD ∧ ∀ v H', lft μ H QD v H' → Q v H'
abbrev JE (B : Bs) (X : Cx) (e : Expr) (w : WE) : Prop := PE X e (up B w)
theorem PE.of {X : Cx} {e : Expr} {t t' : TE} (h : PE X e t) (g : ∀ σ H Q, t' σ H Q → t σ H Q) : PE X e t' := ⟨fun pins s σ H Q I q => h.run pins s σ H Q I (g σ H Q q)⟩
/-- how up is used: the parts in the state's own letters -/
theorem up_mk {w : WE} {σ : L2.St} {H : Hp} {Q : VK} {ρ : Rho} {μ : Mu} {QD : DQ} (r : RS B (MD μ) H ρ σ) (m : MH μ H) (h : w ρ μ QD) (k : ∀ v H' d μ', Step (MD μ) H (MD μ') H' → MH μ' H' → VD (MD μ') H' d v → QD d μ' → Q v H') : up B w σ H Q :=
  ⟨ρ, μ, QD, r, m, h, fun v H' ⟨d, μ', a, b, c, e⟩ => k v H' d μ' a b c e⟩
theorem lft_mk {μ : Mu} {H : Hp} {Q : DQ} {d : D} {v : V} (m : MH μ H) (h : VD (MD μ) H d v) (q : Q d μ) : lft μ H Q v H := ⟨d, μ, .refl, m, h, q⟩
end Dl

namespace Dl
open PySem PySem.Spec PyProof.Rows L2
variable {B : Bs}
/-! ### operations by data -/
abbrev F1 := D → Mu → DQ → Prop
abbrev F2 := D → D → Mu → DQ → Prop
abbrev FN := List D → Mu → DQ → Prop
def upF1 (r : F1) : V → Hp → VK → Prop := fun x H Q => ∃ d μ QD, VD (MD μ) H d x ∧ MH μ H ∧ r d μ QD ∧ ∀ v H', lft μ H QD v H' → Q v H'
def upF2 (r : F2) : R2 := fun x y H Q => ∃ d e μ QD, VD (MD μ) H d x ∧ VD (MD μ) H e y ∧ MH μ H ∧ r d e μ QD ∧ ∀ v H', lft μ H QD v H' → Q v H'
def upFN (r : FN) : List V → Hp → VK → Prop := fun xs H Q => ∃ ds μ QD, VDs (MD μ) H ds xs ∧ MH μ H ∧ r ds μ QD ∧ ∀ v H', lft μ H QD v H' → Q v H'
def upFM (r : D → FN) : V → List V → Hp → VK → Prop := fun x xs H Q => ∃ d ds μ QD, VD (MD μ) H d x ∧ VDs (MD μ) H ds xs ∧ MH μ H ∧ r d ds μ QD ∧ ∀ v H', lft μ H QD v H' → Q v H'
theorem OpR.of {X : Cx} {f : Value → Value → Sem Value} {r r' : R2} (h : OpR X f r) (g : ∀ x y H Q, r' x y H Q → r x y H Q) : OpR X f r' := fun pins s σ H x y v u Q I rx ry q => h pins s σ H x y v u Q I rx ry (g x y H Q q)
theorem UnR.of {X : Cx} {f : Value → Sem Value} {r r' : V → Hp → VK → Prop} (h : UnR X f r) (g : ∀ x H Q, r' x H Q → r x H Q) : UnR X f r' := fun pins s σ H x v Q I rx q => h pins s σ H x v Q I rx (g x H Q q)
theorem CallR.of {X : Cx} {f : Value} {r r' : List V → Hp → VK → Prop} (h : CallR X f r) (g : ∀ xs H Q, r' xs H Q → r xs H Q) : CallR X f r' := fun pins s σ H xs us Q I rx q => h pins s σ H xs us Q I rx (g xs H Q q)
theorem MtR.of {X : Cx} {id : String} {r r' : V → List V → Hp → VK → Prop} (h : MtR X id r) (g : ∀ x xs H Q, r' x xs H Q → r x xs H Q) : MtR X id r' := fun pins s σ H x xs v us Q I rx rxs q => h pins s σ H x xs v us Q I rx rxs (g x xs H Q q)
theorem IxR.of {X : Cx} {r r' : R2} (h : IxR X r) (g : ∀ x y H Q, r' x y H Q → r x y H Q) : IxR X r' := fun a b pins s σ H x y v u Q I rx ry q => h a b pins s σ H x y v u Q I rx ry (g x y H Q q)
theorem PT.of {X : Cx} {e : Expr} {t t' : TT} (h : PT X e t) (g : ∀ σ H Q, t' σ H Q → t σ H Q) : PT X e t' := ⟨fun pins s σ H Q I q => h.run pins s σ H Q I (g σ H Q q)⟩
theorem PW.of {X : Cx} {e : Expr} {t t' : TT} (h : PW X e t) (g : ∀ σ H Q, t' σ H Q → t σ H Q) : PW X e t' := ⟨fun whole pins s σ H Q I q => h.run whole pins s σ H Q I (g σ H Q q)⟩
theorem PA.of {X : Cx} {es : List Expr} {t t' : TA} (h : PA X es t) (g : ∀ σ H Q, t' σ H Q → t σ H Q) : PA X es t' := ⟨fun pos pins s σ H Q I q => h.run pos pins s σ H Q I (g σ H Q q)⟩

/-! ### names and constants -/
def wName (i : Nat) : WE := fun ρ μ Q => match ρ[i]? with
  | some (some d) => Q d μ
  | _ => False
def wC (d : D) : WE := fun _ μ Q => Q d μ
section
variable {X : Cx}
theorem je_name (i : Nat) {x : Str} {pos : Pos} (hN : X.N[i]? = some x := by rfl) (hv : Vis X.env.scope x := by first | exact Or.inl rfl | exact Or.inr (Or.inl rfl) | exact Or.inr (Or.inr rfl)) (hd : (x == ("__debug__" : Str)) = false := by decide)
    (hcd : (x == ("__classdict__" : Str)) = false := by decide) : JE B X (.Name x pos) (wName i) := PE.of (pe_var hN hv hd hcd) fun σ H Q ⟨ρ, μ, QD, r, m, h, k⟩ => by
  unfold wName at h
  split at h
  · rename_i d e
    obtain ⟨v, e1, q⟩ := r.2.1 i d e
    exact ⟨v, e1, k _ _ (lft_mk m q h)⟩
  · exact h.elim
theorem je_c {e : Expr} {v : V} {d : D} (h : PE X e (tC v)) (r : ∀ M H, VD M H d v) : JE B X e (wC d) := PE.of h fun σ H Q ⟨ρ, μ, QD, _, m, h, k⟩ => k _ _ (lft_mk m (r _ _) h)
theorem je_int {i j pos} : JE B X (.Constant (.int i) j pos) (wC (.int i)) := je_c pe_int fun _ _ => rfl
theorem je_bl {b j pos} : JE B X (.Constant (.bool b) j pos) (wC (.bl b)) := je_c pe_bl fun _ _ => rfl
theorem je_non {j pos} : JE B X (.Constant .none j pos) (wC .non) := je_c pe_non fun _ _ => rfl
theorem je_str {x j pos} : JE B X (.Constant (.str x) j pos) (wC (.str x)) := je_c pe_str fun _ _ => rfl
/-- a module's constant -/
theorem je_gint {x : Str} {i : Int} {t : Tok} {pos : Pos} (hm : X.mg x = some (.int i t)) (hg : Gl X x := by rfl) (hd : (x == ("__debug__" : Str)) = false := by decide) : JE B X (.Name x pos) (wC (.int i)) := je_c (pe_glob (v := .int i) hg hm ⟨t, rfl⟩ hd) fun _ _ => rfl
theorem je_gstr {x : Str} {z : Str} {t : Tok} {pos : Pos} (hm : X.mg x = some (.str z t)) (hg : Gl X x := by rfl) (hd : (x == ("__debug__" : Str)) = false := by decide) : JE B X (.Name x pos) (wC (.str z)) := je_c (pe_glob (v := .str z) hg hm ⟨t, rfl⟩ hd) fun _ _ => rfl
/-- a class of the text as a value; a built-in type as a value -/
theorem je_gref {x : Str} {a : Addr} {pos : Pos} (hm : X.mg x = some (.ref a)) (hg : Gl X x := by rfl) (hd : (x == ("__debug__" : Str)) = false := by decide) : JE B X (.Name x pos) (wC (.at a)) := je_c (pe_glob (v := .ref a) hg hm rfl hd) fun _ _ => rfl
theorem je_ty {x : Str} {n : String} {pos : Pos} (hm : X.mg x = none) (hv : bootBuiltins x = some (.type n)) (hg : Gl X x := by rfl) (hn : x ≠ "__name__" := by decide) (hd : (x == ("__debug__" : Str)) = false := by decide) : JE B X (.Name x pos) (wC (.ty n)) := je_c (pe_bltn (v := .ty n) hg hm hv rfl hn hd) fun _ _ => rfl
end

/-! ### new lists, new tuples -/
/-- a new list: it changes no more (false), or it may change (true) -/
def New (m : Bool) (ds : List D) (μ : Mu) (Q : DQ) : Prop := match m with
  | false => Q (.lst ds) μ
  | true => ∀ l, μ l = none → Q (.at l) (put μ l (.lst ds))
theorem lft_new {m : Bool} {μ : Mu} {H : Hp} {Q : DQ} {ds : List D} {xs : List V} {p : Addr} (mh : MH μ H) (hv : VDs (MD μ) H ds xs) (hp : H p = none) (q : New m ds μ Q) : lft μ H Q (.ref p) (upd H p (.lst xs)) := by
  have hn := mh.free hp
  cases m with
  | false =>
    have st : Step (MD μ) H (MD μ) (upd H p (.lst xs)) := .new hp
    exact ⟨.lst ds, μ, st, mh.newF hp, ⟨p, xs, rfl, ⟨fun ⟨o, e⟩ => (by rw [hn] at e; cases e), upd_same⟩, VDs.step st _ _ hv⟩, q⟩
  | true =>
    have st : Step (MD μ) H (MD (put μ p (.lst ds))) (upd H p (.lst xs)) := .newM hp
    exact ⟨.at p, put μ p (.lst ds), st, mh.newM hp ⟨xs, upd_same, VDs.step st _ _ hv⟩, rfl, q p hn⟩
theorem lft_tup {μ : Mu} {H : Hp} {Q : DQ} {ds : List D} {xs : List V} {p : Addr} (mh : MH μ H) (hv : VDs (MD μ) H ds xs) (hp : H p = none) (q : Q (.tup ds) μ) : lft μ H Q (.ref p) (upd H p (.tup xs)) := by
  have hn := mh.free hp
  have st : Step (MD μ) H (MD μ) (upd H p (.tup xs)) := .new hp
  exact ⟨.tup ds, μ, st, mh.newF hp, ⟨p, xs, rfl, ⟨fun ⟨o, e⟩ => (by rw [hn] at e; cases e), upd_same⟩, VDs.step st _ _ hv⟩, q⟩

/-! ### arguments, displays -/
abbrev WA := Rho → Mu → (List D → Mu → Prop) → Prop
def upA (B : Bs) (w : WA) : TA := fun σ H Q => ∃ ρ μ QD, RS B (MD μ) H ρ σ ∧ MH μ H ∧ w ρ μ QD ∧ ∀ vs H' ds μ', Step (MD μ) H (MD μ') H' → MH μ' H' → VDs (MD μ') H' ds vs → QD ds μ' → Q vs H'
abbrev JA (B : Bs) (X : Cx) (es : List Expr) (w : WA) : Prop := PA X es (upA B w)
def wNil : WA := fun _ μ Q => Q [] μ
def wCons (a : WE) (r : WA) : WA := fun ρ μ Q => a ρ μ fun d μ1 => r ρ μ1 fun ds μ2 => Q (d :: ds) μ2
section
variable {X : Cx} {e : Expr} {es : List Expr} {a : WE} {r : WA} {pos : Pos}
theorem ja_nil : JA B X [] wNil := PA.of pa_nil fun σ H Q ⟨ρ, μ, QD, _, m, h, k⟩ => k [] H [] μ .refl m rfl h
theorem ja_cons (ha : JE B X e a) (hr : JA B X es r) (hs : starEach (e :: es) X.env = (false, eval e X.env) :: starEach es X.env := by rfl) : JA B X (e :: es) (wCons a r) := PA.of (pa_cons ha hr hs) fun σ H Q ⟨ρ, μ, QD, rs, m, h, k⟩ =>
  up_mk rs m h fun v H1 d μ1 s1 m1 v1 h1 => ⟨ρ, μ1, _, rs.step s1, m1, h1, fun vs H2 ds μ2 s2 m2 v2 h2 => k _ _ (d :: ds) μ2 (s1.trans s2) m2 ⟨v, vs, rfl, VD.step s2 _ _ v1, v2⟩ h2⟩
def wLst (m : Bool) (w : WA) : WE := fun ρ μ Q => w ρ μ fun ds μ1 => ds.length ≤ sizeLine ∧ New m ds μ1 Q
def wTup (w : WA) : WE := fun ρ μ Q => w ρ μ fun ds μ1 => ds.length ≤ sizeLine ∧ Q (.tup ds) μ1
theorem je_lst (m : Bool) (h : JA B X es r) : JE B X (.List es pos) (wLst m r) := PE.of (pe_lst h) fun σ H Q ⟨ρ, μ, QD, rs, mh, h, k⟩ =>
  ⟨ρ, μ, _, rs, mh, h, fun vs H1 ds μ1 s1 m1 v1 h1 => ⟨by rw [← v1.length]; exact h1.1, fun p hp => k _ _ ((lft_new m1 v1 hp h1.2).trans s1)⟩⟩
theorem je_tup {x1} (h : JA B X es r) : JE B X (.Tuple es x1 pos) (wTup r) := PE.of (pe_tup h) fun σ H Q ⟨ρ, μ, QD, rs, mh, h, k⟩ =>
  ⟨ρ, μ, _, rs, mh, h, fun vs H1 ds μ1 s1 m1 v1 h1 => ⟨by rw [← v1.length]; exact h1.1, fun p hp => k _ _ ((lft_tup m1 v1 hp h1.2).trans s1)⟩⟩
end

/-- by cases upon a known truth -/
def Br (c : Bool) (A B : Prop) : Prop := (c = true → A) ∧ (c = false → B)
theorem Br.ite {c : Bool} {A B : Prop} (h : Br c A B) : if c = true then A else B := by
  cases c with
  | true => rw [if_pos rfl]; exact h.1 rfl
  | false => rw [if_neg Bool.false_ne_true]; exact h.2 rfl
theorem Br.mono {c : Bool} {A B A' B' : Prop} (h : Br c A B) (f : A → A') (g : B → B') : Br c A' B' := ⟨fun e => f (h.1 e), fun e => g (h.2 e)⟩

/-- a value that is True or False -/
def isBl (d : D) (Q : Bool → Prop) : Prop := match d with
  | .bl b => Q b
  | _ => False
theorem isBl.val {d : D} {Q : Bool → Prop} (h : isBl d Q) : ∃ b, d = .bl b ∧ Q b := by
  cases d with
  | bl b => exact ⟨b, rfl, h⟩
  | _ => exact h.elim
/-! ### operators -/
def wOp (f : F2) (a b : WE) : WE := fun ρ μ Q => a ρ μ fun d μ1 => b ρ μ1 fun e μ2 => f d e μ2 Q
def wUn (f : F1) (a : WE) : WE := fun ρ μ Q => a ρ μ fun d μ1 => f d μ1 Q
theorem up_op {f : F2} {a b : WE} {σ : L2.St} {H : Hp} {Q : VK} (h : up B (wOp f a b) σ H Q) : tOp (upF2 f) (up B a) (up B b) σ H Q := by
  obtain ⟨ρ, μ, QD, rs, m, h, k⟩ := h
  exact up_mk rs m h fun v H1 d μ1 s1 m1 v1 h1 => up_mk (rs.step s1) m1 h1 fun u H2 e μ2 s2 m2 v2 h2 => ⟨d, e, μ2, QD, VD.step s2 _ _ v1, v2, m2, h2, fun z H3 q => k z H3 (q.trans (s1.trans s2))⟩
section
variable {X : Cx} {x y : Expr} {a b : WE} {f : F2} {g : F1} {pos : Pos}
theorem je_op {op : Operator} (ho : OpR X (binaryOp op) (upF2 f)) (ha : JE B X x a) (hb : JE B X y b) : JE B X (.BinOp x op y pos) (wOp f a b) := PE.of (pe_op ho ha hb) fun _ _ _ h => up_op h
theorem je_un {op : UnaryOp} (ho : UnR X (unaryOp op) (upF1 g)) (ha : JE B X x a) : JE B X (.UnaryOp op x pos) (wUn g a) := PE.of (pe_un ho ha) fun σ H Q ⟨ρ, μ, QD, rs, m, h, k⟩ =>
  up_mk rs m h fun v H1 d μ1 s1 m1 v1 h1 => ⟨d, μ1, QD, v1, m1, h1, fun z H3 q => k z H3 (q.trans s1)⟩
theorem je_cmp {op : CmpOp} (ho : OpR X (compareOp op) (upF2 f)) (ha : JE B X x a) (hb : JE B X y b) (hm : behindInMarks op y = false := by first | exact nomark _ (by decide) (by decide) | rfl) : JE B X (.Compare x [op] [y] pos) (wOp f a b) := PE.of (pe_cmpR ho ha hb hm) fun _ _ _ h => up_op h
theorem je_ix (ho : IxR X (upF2 f)) (ha : JE B X x a) (hb : JE B X y b) (hs : PlainIx y := by exact fun _ _ => rfl) : JE B X (.Subscript x y pos) (wOp f a b) := PE.of (pe_ix ho ha hb hs) fun _ _ _ h => up_op h
/-- a op b op' c -/
def wChain (f f' : F2) (a b c : WE) : WE := fun ρ μ Q => a ρ μ fun d μ1 => b ρ μ1 fun e μ2 => f d e μ2 fun z μ3 => isBl z fun k => Br k (c ρ μ3 fun g μ4 => f' e g μ4 Q) (Q (.bl false) μ3)
section
variable {z : Expr} {c : WE} {f' : F2}
theorem up_chain {σ : L2.St} {H : Hp} {Q : VK} (h : up B (wChain f f' a b c) σ H Q) : tChain (upF2 f) (upF2 f') (up B a) (up B b) (up B c) σ H Q := by
  obtain ⟨ρ, μ, QD, rs, m, h, k⟩ := h
  refine up_mk rs m h fun v H1 d μ1 s1 m1 v1 h1 => up_mk (rs.step s1) m1 h1 fun u H2 e μ2 s2 m2 v2 h2 => ⟨d, e, μ2, _, VD.step s2 _ _ v1, v2, m2, h2, fun w' H3 ⟨g, μ3, s3, m3, v3, hz⟩ => ?_⟩
  obtain ⟨kk, rfl, ht, hf⟩ := hz.val
  refine ⟨kk, v3, ?_⟩
  have s123 := (s1.trans s2).trans s3
  cases kk with
  | false =>
    rw [if_neg Bool.false_ne_true]
    exact k _ _ ⟨.bl false, μ3, s123, m3, rfl, hf rfl⟩
  | true =>
    rw [if_pos rfl]
    exact up_mk (rs.step s123) m3 (ht rfl) fun t H4 g μ4 s4 m4 v4 h4 => ⟨e, g, μ4, QD, VD.step (s3.trans s4) _ _ v2, v4, m4, h4, fun q H5 hq => k q H5 (hq.trans (s123.trans s4))⟩
theorem je_chain {op op' : CmpOp} (ho : OpR X (compareOp op) (upF2 f)) (ho' : OpR X (compareOp op') (upF2 f')) (ha : JE B X x a) (hb : JE B X y b) (hc : JE B X z c)
    (hm : lastMarks [op, op'] [y, z] = false := by with_unfolding_all rfl) : JE B X (.Compare x [op, op'] [y, z] pos) (wChain f f' a b c) := PE.of (pe_chain ho ho' ha hb hc hm) fun _ _ _ h => up_chain h
end
end
/-! ### tests, truths, choices -/
abbrev WT := Rho → Mu → (Bool → Mu → Prop) → Prop
def upT (B : Bs) (w : WT) : TT := fun σ H Q => ∃ ρ μ QD, RS B (MD μ) H ρ σ ∧ MH μ H ∧ w ρ μ QD ∧ ∀ b H' μ', Step (MD μ) H (MD μ') H' → MH μ' H' → QD b μ' → Q b H'
abbrev JT (B : Bs) (X : Cx) (e : Expr) (w : WT) : Prop := PT X e (upT B w)
abbrev JW (B : Bs) (X : Cx) (e : Expr) (w : WT) : Prop := PW X e (upT B w)
theorem upT_mk {w : WT} {σ : L2.St} {H : Hp} {Q : Bool → Hp → Prop} {ρ : Rho} {μ : Mu} {QD : Bool → Mu → Prop} (r : RS B (MD μ) H ρ σ) (m : MH μ H) (h : w ρ μ QD) (k : ∀ b H' μ', Step (MD μ) H (MD μ') H' → MH μ' H' → QD b μ' → Q b H') : upT B w σ H Q := ⟨ρ, μ, QD, r, m, h, k⟩
def wB (a : WE) : WT := fun ρ μ Q => a ρ μ fun d μ1 => isBl d fun b => Q b μ1
def wAndT (s t : WT) : WT := fun ρ μ Q => s ρ μ fun c μ1 => Br c (t ρ μ1 Q) (Q false μ1)
def wOrT (s t : WT) : WT := fun ρ μ Q => s ρ μ fun c μ1 => Br c (Q true μ1) (t ρ μ1 Q)
def wNotT (t : WT) : WT := fun ρ μ Q => t ρ μ fun c μ1 => Q (!c) μ1
def wIfE (t : WT) (a b : WE) : WE := fun ρ μ Q => t ρ μ fun c μ1 => Br c (a ρ μ1 Q) (b ρ μ1 Q)
def wAndV (a b : WE) : WE := fun ρ μ Q => a ρ μ fun d μ1 => isBl d fun c => Br c (b ρ μ1 Q) (Q (.bl false) μ1)
def wOrV (a b : WE) : WE := fun ρ μ Q => a ρ μ fun d μ1 => isBl d fun c => Br c (Q (.bl true) μ1) (b ρ μ1 Q)
def wNotV (a : WE) : WE := fun ρ μ Q => a ρ μ fun d μ1 => isBl d fun c => Q (.bl (!c)) μ1
section
variable {X : Cx} {x y z : Expr} {es : List Expr} {a b : WE} {s t : WT} {pos : Pos}
theorem up_tB {σ : L2.St} {H : Hp} {Q : Bool → Hp → Prop} (h : upT B (wB a) σ H Q) : up B a σ H (fun v H1 => ∃ c, v = .bl c ∧ Q c H1) := by
  obtain ⟨ρ, μ, QD, rs, m, h, k⟩ := h
  refine up_mk rs m h fun v H1 d μ1 s1 m1 v1 h1 => ?_
  obtain ⟨c, rfl, q⟩ := h1.val
  exact ⟨c, v1, k c H1 μ1 s1 m1 q⟩
/-- an expression whose value is a truth, as a test -/
theorem jt_val (h : JE B X x a) (he : ∀ whole, isTrue x X.env whole = (do let v ← whole; standAt x.pos; holding [v] (truthy v)) := by intro _; rfl) : JT B X x (wB a) := PT.of (pt_val h he) fun _ _ _ q => up_tB q
theorem jt_cmp {f : F2} {op : CmpOp} (ho : OpR X (compareOp op) (upF2 f)) (ha : JE B X x a) (hb : JE B X y b) (hm : behindInMarks op y = false := by first | exact nomark _ (by decide) (by decide) | rfl) : JT B X (.Compare x [op] [y] pos) (wB (wOp f a b)) :=
  PT.of (pt_cmpR ho ha hb hm) fun σ H Q h => up_op (up_tB h)
theorem jt_chain {f f' : F2} {c : WE} {op op' : CmpOp} (ho : OpR X (compareOp op) (upF2 f)) (ho' : OpR X (compareOp op') (upF2 f')) (ha : JE B X x a) (hb : JE B X y b) (hc : JE B X z c)
    (hm : lastMarks [op, op'] [y, z] = false := by with_unfolding_all rfl) : JT B X (.Compare x [op, op'] [y, z] pos) (wB (wChain f f' a b c)) := PT.of (pt_chain ho ho' ha hb hc hm) fun σ H Q h => up_chain (up_tB h)
theorem jt_not (h : JT B X x t) : JT B X (.UnaryOp .Not x pos) (wNotT t) := PT.of (pt_not h) fun σ H Q ⟨ρ, μ, QD, rs, m, h, k⟩ => upT_mk rs m h fun c H1 μ1 s1 m1 h1 => k _ _ _ s1 m1 h1
theorem jw_and1 (h : JT B X x t) : JW B X (.BoolOp .And [x] pos) t := pw_and1 h
theorem jw_or1 (h : JT B X x t) : JW B X (.BoolOp .Or [x] pos) t := pw_or1 h
theorem jw_and (h : JT B X x s) (g : JW B X (.BoolOp .And (y :: es) pos) t) : JW B X (.BoolOp .And (x :: y :: es) pos) (wAndT s t) := PW.of (pw_and h g) fun σ H Q ⟨ρ, μ, QD, rs, m, h, k⟩ =>
  upT_mk rs m h fun c H1 μ1 s1 m1 h1 => (h1.mono (fun q => upT_mk (rs.step s1) m1 q fun b H2 μ2 s2 m2 h2 => k b H2 μ2 (s1.trans s2) m2 h2) fun q => k _ _ _ s1 m1 q).ite
theorem jw_or (h : JT B X x s) (g : JW B X (.BoolOp .Or (y :: es) pos) t) : JW B X (.BoolOp .Or (x :: y :: es) pos) (wOrT s t) := PW.of (pw_or h g) fun σ H Q ⟨ρ, μ, QD, rs, m, h, k⟩ =>
  upT_mk rs m h fun c H1 μ1 s1 m1 h1 => (h1.mono (fun q => k _ _ _ s1 m1 q) fun q => upT_mk (rs.step s1) m1 q fun b H2 μ2 s2 m2 h2 => k b H2 μ2 (s1.trans s2) m2 h2).ite
theorem jt_w (h : JW B X x t) : JT B X x t := h.pt
theorem je_if (h : JT B X z t) (ha : JE B X x a) (hb : JE B X y b) : JE B X (.IfExp z x y pos) (wIfE t a b) := PE.of (pe_ifExp h ha hb) fun σ H Q ⟨ρ, μ, QD, rs, m, h, k⟩ =>
  upT_mk rs m h fun c H1 μ1 s1 m1 h1 => (h1.mono (fun q => ⟨ρ, μ1, QD, rs.step s1, m1, q, fun v H2 z => k v H2 (z.trans s1)⟩) fun q => ⟨ρ, μ1, QD, rs.step s1, m1, q, fun v H2 z => k v H2 (z.trans s1)⟩).ite
theorem je_one {op} (h : JE B X x a) : JE B X (.BoolOp op [x] pos) a := pe_one h
theorem je_and (ha : JE B X x a) (hb : JE B X (.BoolOp .And (y :: es) pos) b) : JE B X (.BoolOp .And (x :: y :: es) pos) (wAndV a b) := PE.of (pe_and ha hb) fun σ H Q ⟨ρ, μ, QD, rs, m, h, k⟩ =>
  up_mk rs m h fun v H1 d μ1 s1 m1 v1 h1 => by
    obtain ⟨c, rfl, q⟩ := h1.val
    exact ⟨c, v1, (q.mono (fun q => ⟨ρ, μ1, QD, rs.step s1, m1, q, fun v H2 z => k v H2 (z.trans s1)⟩) fun q => k _ _ ⟨.bl false, μ1, s1, m1, rfl, q⟩).ite⟩
theorem je_or (ha : JE B X x a) (hb : JE B X (.BoolOp .Or (y :: es) pos) b) : JE B X (.BoolOp .Or (x :: y :: es) pos) (wOrV a b) := PE.of (pe_or ha hb) fun σ H Q ⟨ρ, μ, QD, rs, m, h, k⟩ =>
  up_mk rs m h fun v H1 d μ1 s1 m1 v1 h1 => by
    obtain ⟨c, rfl, q⟩ := h1.val
    exact ⟨c, v1, (q.mono (fun q => k _ _ ⟨.bl true, μ1, s1, m1, rfl, q⟩) fun q => ⟨ρ, μ1, QD, rs.step s1, m1, q, fun v H2 z => k v H2 (z.trans s1)⟩).ite⟩
theorem je_not (ha : JE B X x a) : JE B X (.UnaryOp .Not x pos) (wNotV a) := PE.of (pe_not ha) fun σ H Q ⟨ρ, μ, QD, rs, m, h, k⟩ =>
  up_mk rs m h fun v H1 d μ1 s1 m1 v1 h1 => by
    obtain ⟨c, rfl, q⟩ := h1.val
    exact ⟨c, v1, k _ _ ⟨.bl (!c), μ1, s1, m1, rfl, q⟩⟩
end
end Dl

namespace Dl
open PySem PySem.Spec PyProof.Rows L2
variable {B : Bs}
/-! ### lists that are read, lists that may be worked with -/
/-- the items of a list that is data or may change -/
def Ls (μ : Mu) : D → List D → Prop
  | .lst xs, ds => xs = ds
  | .at l, ds => μ l = some (.lst ds)
  | _, _ => False
/-- .. or is read only -/
def Lr (μ : Mu) : D → List D → Prop
  | .lst xs, ds => xs = ds
  | .at l, ds => μ l = some (.lst ds) ∨ μ l = some (.ro ds)
  | _, _ => False
/-- the items of a list or tuple -/
def Sq (μ : Mu) : D → List D → Prop
  | .tup xs, ds => xs = ds
  | d, ds => Lr μ d ds
section
variable {μ : Mu} {H : Hp} {d : D} {ds : List D} {x : V}
theorem Ls.to (mh : MH μ H) (v : VD (MD μ) H d x) (h : Ls μ d ds) : ∃ a xs, x = .ref a ∧ H a = some (.lst xs) ∧ VDs (MD μ) H ds xs := by
  cases d with
  | lst es =>
    obtain ⟨a, xs, e, f, g⟩ := v
    have h' : es = ds := h
    subst h'
    exact ⟨a, xs, e, f.2, g⟩
  | «at» l =>
    obtain ⟨xs, e, g⟩ := mh l _ h
    exact ⟨l, xs, v, e, g⟩
  | _ => exact h.elim
theorem Lr.to (mh : MH μ H) (v : VD (MD μ) H d x) (h : Lr μ d ds) : ∃ a xs, x = .ref a ∧ Rd H a (.lst xs) ∧ VDs (MD μ) H ds xs := by
  cases d with
  | lst es =>
    obtain ⟨a, xs, e, f, g⟩ := v
    have h' : es = ds := h
    subst h'
    exact ⟨a, xs, e, .inl f.2, g⟩
  | «at» l =>
    rcases h with h | h
    · obtain ⟨xs, e, g⟩ := mh l _ h
      exact ⟨l, xs, v, .inl e, g⟩
    · obtain ⟨xs, e, g⟩ := mh l _ h
      exact ⟨l, xs, v, e, g⟩
  | _ => exact h.elim
theorem Sq.to (K : Frg) (mh : MH μ H) (v : VD (MD μ) H d x) (h : Sq μ d ds) : ∃ a xs, x = .ref a ∧ (SqL K H a xs ∨ SqT K H a xs) ∧ VDs (MD μ) H ds xs := by
  cases d with
  | tup es =>
    obtain ⟨a, xs, e, f, g⟩ := v
    have h' : es = ds := h
    subst h'
    exact ⟨a, xs, e, .inr (SqT.of f.2), g⟩
  | lst es =>
    obtain ⟨a, xs, e, f, g⟩ := Lr.to mh v (show Lr μ (.lst es) ds from h)
    exact ⟨a, xs, e, .inl (.inl f), g⟩
  | «at» l =>
    obtain ⟨a, xs, e, f, g⟩ := Lr.to mh v (show Lr μ (.at l) ds from h)
    exact ⟨a, xs, e, .inl (.inl f), g⟩
  | _ => exact h.elim
theorem sz_le {n : Nat} (h : n ≤ 100000) : n ≤ sizeLine := by rw [sizeLine_eq]; omega
end

/-! ### what data come to -/
mutual
inductive Rs (μ : Mu) : D → PyData → Prop
  | non : Rs μ .non .none
  | bl (b : Bool) : Rs μ (.bl b) (.bool b)
  | int (i : Int) : Rs μ (.int i) (.int i)
  | str (x : Str) : Rs μ (.str x) (.str x)
  | lst {ds : List D} {ps : List PyData} : Rss μ ds ps → Rs μ (.lst ds) (.list ps)
  | tup {ds : List D} {ps : List PyData} : Rss μ ds ps → Rs μ (.tup ds) (.tuple ps)
  | «at» {l : Addr} {ds : List D} {ps : List PyData} : μ l = some (.lst ds) → Rss μ ds ps → Rs μ (.at l) (.list ps)
inductive Rss (μ : Mu) : List D → List PyData → Prop
  | nil : Rss μ [] []
  | cons {d : D} {ds : List D} {p : PyData} {ps : List PyData} : Rs μ d p → Rss μ ds ps → Rss μ (d :: ds) (p :: ps)
end
theorem Rss.map {α : Type} {μ : Mu} {f : α → D} {g : α → PyData} : ∀ {l : List α}, (∀ x ∈ l, Rs μ (f x) (g x)) → Rss μ (l.map f) (l.map g)
  | [], _ => .nil
  | x :: l, h => .cons (h x List.mem_cons_self) (Rss.map fun y hy => h y (List.mem_cons_of_mem _ hy))
mutual
theorem Rs.dp {K : Frg} {μ : Mu} {H : Hp} (mh : MH μ H) : ∀ (p : PyData) (d : D) (v : V), Rs μ d p → VD (MD μ) H d v → Dp K H v p
  | .none, _, _, r, h => by cases r; rw [show _ = V.non from h]; exact .non
  | .bool b, _, _, r, h => by cases r; rw [show _ = V.bl b from h]; exact .bl b
  | .int i, _, _, r, h => by cases r; rw [show _ = V.int i from h]; exact .int i
  | .str x, _, _, r, h => by cases r; rw [show _ = V.str x from h]; exact .str x
  | .list ps, _, _, r, h => by
    cases r with
    | lst rs =>
      obtain ⟨a, xs, rfl, f, g⟩ := h
      exact .lst (SqL.of f.2) (Rss.dp mh ps _ _ rs g)
    | «at» e rs =>
      obtain ⟨xs, q, g⟩ := mh _ _ e
      rw [show _ = V.ref _ from h]
      exact .lst (SqL.of q) (Rss.dp mh ps _ _ rs g)
  | .tuple ps, _, _, r, h => by
    cases r with
    | tup rs =>
      obtain ⟨a, xs, rfl, f, g⟩ := h
      exact .tup (SqT.of f.2) (Rss.dp mh ps _ _ rs g)
  | .dict _, _, _, r, _ => by cases r
theorem Rss.dp {K : Frg} {μ : Mu} {H : Hp} (mh : MH μ H) : ∀ (ps : List PyData) (ds : List D) (vs : List V), Rss μ ds ps → VDs (MD μ) H ds vs → DpAll K H vs ps
  | [], _, _, r, h => by cases r; rw [show _ = [] from h]; exact .nil
  | p :: ps, _, _, r, h => by
    cases r with
    | cons r1 r2 =>
      obtain ⟨v, vs, rfl, h1, h2⟩ := h
      exact .cons (Rs.dp mh p _ _ r1 h1) (Rss.dp mh ps _ _ r2 h2)
end

mutual
theorem Rs.plain {μ : Mu} : ∀ (p : PyData) (d : D), Rs μ d p → p.plain = true
  | .none, _, _ => rfl
  | .bool _, _, _ => rfl
  | .int _, _, _ => rfl
  | .str _, _, _ => rfl
  | .list ps, _, r => by
    show PyData.plainAll ps = true
    cases r with
    | lst rs => exact Rss.plain ps _ rs
    | «at» e rs => exact Rss.plain ps _ rs
  | .tuple ps, _, r => by
    show PyData.plainAll ps = true
    cases r with
    | tup rs => exact Rss.plain ps _ rs
  | .dict _, _, r => by cases r
theorem Rss.plain {μ : Mu} : ∀ (ps : List PyData) (ds : List D), Rss μ ds ps → PyData.plainAll ps = true
  | [], _, _ => rfl
  | p :: ps, _, r => by
    cases r with
    | cons r1 r2 => simp only [PyData.plainAll, Rs.plain p _ r1, Rss.plain ps _ r2, Bool.and_self]
end

/-! ### == and != -/
def EqQ (μ : Mu) (d e : D) (Q : Bool → Prop) : Prop := match d, e with
  | .int i, .int j => Q (decide (i = j))
  | .str x, .str y => Q (decide (x = y))
  | .bl a, .bl b => Q (decide (a = b))
  | d, e => ∃ p q, Rs μ d p ∧ Rs μ e q ∧ min p.depth q.depth ≤ 60 ∧ Q (PyData.eqv p q)
theorem EqQ.to {μ : Mu} {d e : D} {Q : Bool → Prop} (h : EqQ μ d e Q) : ∃ p q, Rs μ d p ∧ Rs μ e q ∧ min p.depth q.depth ≤ 60 ∧ Q (PyData.eqv p q) := by
  unfold EqQ at h
  split at h
  · rename_i i j
    refine ⟨.int i, .int j, .int i, .int j, by simp [PyData.depth], ?_⟩
    simp only [PyData.eqv]; rw [Bool.beq_eq_decide_eq]; exact h
  · rename_i i j
    refine ⟨.str i, .str j, .str i, .str j, by simp [PyData.depth], ?_⟩
    simp only [PyData.eqv]; rw [Bool.beq_eq_decide_eq]; exact h
  · rename_i i j
    refine ⟨.bool i, .bool j, .bl i, .bl j, by simp [PyData.depth], ?_⟩
    simp only [PyData.eqv]; rw [Bool.beq_eq_decide_eq]; exact h
  · exact h
def fEq : F2 := fun d e μ Q => EqQ μ d e fun b => Q (.bl b) μ
def fNe : F2 := fun d e μ Q => EqQ μ d e fun b => Q (.bl (!b)) μ
section
variable {X : Cx}
theorem od_eq (hu : X.A.units + 65 < cLine) : OpR X (compareOp .Eq) (upF2 fEq) := fun pins s σ H x y v u Q I rx ry ⟨d, e, μ, QD, hx, hy, mh, h, k⟩ => by
  obtain ⟨p, q, rp, rq, sp, hq⟩ := EqQ.to h
  obtain ⟨as, r1⟩ := Dp.reads I p x v (Rs.dp mh p d x rp hx) rx
  obtain ⟨bs, r2⟩ := Dp.reads I q y u (Rs.dp mh q e y rq hy) ry
  exact SeqAt.eq_plain r1 r2 (rp.plain p d) (rq.plain q e) (by omega) ⟨.bl _, H, I, rfl, k _ _ (lft_mk (d := .bl _) mh rfl hq)⟩
theorem od_ne (hu : X.A.units + 65 < cLine) : OpR X (compareOp .NotEq) (upF2 fNe) := fun pins s σ H x y v u Q I rx ry ⟨d, e, μ, QD, hx, hy, mh, h, k⟩ => by
  obtain ⟨p, q, rp, rq, sp, hq⟩ := EqQ.to h
  obtain ⟨as, r1⟩ := Dp.reads I p x v (Rs.dp mh p d x rp hx) rx
  obtain ⟨bs, r2⟩ := Dp.reads I q y u (Rs.dp mh q e y rq hy) ry
  exact SeqAt.ne_plain r1 r2 (rp.plain p d) (rq.plain q e) (by omega) ⟨.bl _, H, I, rfl, k _ _ (lft_mk (d := .bl _) mh rfl hq)⟩
/-! ### x in xs, of data -/
def fIn (n : Bool) : F2 := fun d e μ Q => ∃ p qs, Rs μ d p ∧ (Rs μ e (.list qs) ∨ Rs μ e (.tuple qs)) ∧ min (PyData.depthAll qs) p.depth ≤ 60 ∧ Q (.bl (if n then !qs.any (fun z => PyData.eqv z p) else qs.any fun z => PyData.eqv z p)) μ
theorem od_in (hu : X.A.units + 65 < cLine) : OpR X (compareOp .In) (upF2 (fIn false)) := fun pins s σ H x y v u Q I rx ry ⟨d, e, μ, QD, hx, hy, mh, ⟨p, qs, rp, rq, sp, hq⟩, k⟩ => by
  obtain ⟨as, r1⟩ := Dp.reads I p x v (Rs.dp mh p d x rp hx) rx
  rcases rq with rq | rq
  · obtain ⟨bs, r2⟩ := Dp.reads I (.list qs) y u (Rs.dp mh _ e y rq hy) ry
    exact SeqAt.in_list_data r2 r1 (rq.plain _ e) (rp.plain p d) (by omega) ⟨.bl _, H, I, rfl, k _ _ (lft_mk (d := .bl _) mh rfl hq)⟩
  · obtain ⟨bs, r2⟩ := Dp.reads I (.tuple qs) y u (Rs.dp mh _ e y rq hy) ry
    exact SeqAt.in_tuple_data r2 r1 (rq.plain _ e) (rp.plain p d) (by omega) ⟨.bl _, H, I, rfl, k _ _ (lft_mk (d := .bl _) mh rfl hq)⟩
theorem od_notin (hu : X.A.units + 65 < cLine) : OpR X (compareOp .NotIn) (upF2 (fIn true)) := fun pins s σ H x y v u Q I rx ry ⟨d, e, μ, QD, hx, hy, mh, ⟨p, qs, rp, rq, sp, hq⟩, k⟩ => by
  obtain ⟨as, r1⟩ := Dp.reads I p x v (Rs.dp mh p d x rp hx) rx
  rcases rq with rq | rq
  · obtain ⟨bs, r2⟩ := Dp.reads I (.list qs) y u (Rs.dp mh _ e y rq hy) ry
    exact SeqAt.notIn_list_data r2 r1 (rq.plain _ e) (rp.plain p d) (by omega) ⟨.bl _, H, I, rfl, k _ _ (lft_mk (d := .bl _) mh rfl hq)⟩
  · obtain ⟨bs, r2⟩ := Dp.reads I (.tuple qs) y u (Rs.dp mh _ e y rq hy) ry
    exact SeqAt.notIn_tuple_data r2 r1 (rq.plain _ e) (rp.plain p d) (by omega) ⟨.bl _, H, I, rfl, k _ _ (lft_mk (d := .bl _) mh rfl hq)⟩

/-! ### arithmetic -/
def fAdd (m : Bool) : F2 := fun d e μ Q => match d, e with
  | .int i, .int j => Q (.int (i + j)) μ
  | .str x, .str y => x.length + y.length ≤ sizeLine ∧ Q (.str (x ++ y)) μ
  | .tup xs, .tup ys => xs ≠ [] ∧ xs.length + ys.length ≤ sizeLine ∧ Q (.tup (xs ++ ys)) μ
  | d, e => ∃ xs ys, Ls μ d xs ∧ Ls μ e ys ∧ xs.length + ys.length ≤ sizeLine ∧ New m (xs ++ ys) μ Q
theorem od_add (m : Bool) : OpR X (binaryOp .Add) (upF2 (fAdd m)) := OpR.of ((op_add.or op_add_str).or (op_catT.or op_cat)) fun x y H Q ⟨d, e, μ, QD, hx, hy, mh, h, k⟩ => by
  unfold fAdd at h
  split at h
  · rename_i i j
    exact .inl (.inl ⟨i, j, hx, hy, k _ _ (lft_mk (d := .int _) mh rfl h)⟩)
  · rename_i i j
    exact .inl (.inr ⟨i, j, hx, hy, h.1, k _ _ (lft_mk (d := .str _) mh rfl h.2)⟩)
  · rename_i i j
    obtain ⟨a, xs, ex, f, g⟩ := hx
    obtain ⟨b, ys, ey, f2, g2⟩ := hy
    have l1 := g.length
    have l2 := g2.length
    refine .inr (.inl ⟨a, b, xs, ys, ex, ey, SqT.of f.2, SqT.of f2.2, ?_, by omega, ?_⟩)
    · intro e0
      rw [e0] at l1
      exact h.1 (List.length_eq_zero_iff.mp l1)
    · refine ⟨fun c => ?_, fun _ p hp => k _ _ (lft_tup mh (g.append g2) hp h.2.2)⟩
      have c' : j = [] := by
        rw [c] at l2
        exact List.length_eq_zero_iff.mp l2
      have hq := h.2.2
      rw [c', List.append_nil] at hq
      rw [← ex]
      exact k _ _ (lft_mk (d := .tup i) mh ⟨a, xs, ex, f, g⟩ hq)
  · obtain ⟨xs, ys, h1, h2, h3, h4⟩ := h
    obtain ⟨a, vs, ex, f, g⟩ := h1.to mh hx
    obtain ⟨b, ws, ey, f2, g2⟩ := h2.to mh hy
    exact .inr (.inr ⟨a, b, vs, ws, ex, ey, f, f2, by rw [← g.length, ← g2.length]; exact h3, fun p hp => k _ _ (lft_new mh (g.append g2) hp h4)⟩)
/-- ints in, under a condition -/
def fI (C : Int → Int → Prop) (g : Int → Int → D) : F2 := fun d e μ Q => match d, e with
  | .int i, .int j => C i j ∧ Q (g i j) μ
  | _, _ => False
def fI0 (g : Int → Int → D) : F2 := fun d e μ Q => match d, e with
  | .int i, .int j => Q (g i j) μ
  | _, _ => False
theorem od_I {f : Value → Value → Sem Value} {C : Int → Int → Prop} {gv : Int → Int → V} {g : Int → Int → D} (h : OpR X f (rI C gv)) (r : ∀ M H i j, VD M H (g i j) (gv i j)) : OpR X f (upF2 (fI C g)) := OpR.of h fun x y H Q ⟨d, e, μ, QD, hx, hy, mh, h, k⟩ => by
  unfold fI at h
  split at h
  · rename_i i j
    exact ⟨i, j, hx, hy, h.1, k _ _ (lft_mk mh (r _ _ _ _) h.2)⟩
  · exact h.elim
theorem od_I0 {f : Value → Value → Sem Value} {gv : Int → Int → V} {g : Int → Int → D} (h : OpR X f (rI0 gv)) (r : ∀ M H i j, VD M H (g i j) (gv i j)) : OpR X f (upF2 (fI0 g)) := OpR.of h fun x y H Q ⟨d, e, μ, QD, hx, hy, mh, h, k⟩ => by
  unfold fI0 at h
  split at h
  · rename_i i j
    exact ⟨i, j, hx, hy, k _ _ (lft_mk mh (r _ _ _ _) h)⟩
  · exact h.elim
theorem od_sub : OpR X (binaryOp .Sub) (upF2 (fI0 fun i j => .int (i - j))) := od_I0 op_sub fun _ _ _ _ => rfl
theorem od_fdiv : OpR X (binaryOp .FloorDiv) (upF2 (fI CDivW fun i j => .int (i / j))) := od_I op_fdivW fun _ _ _ _ => rfl
theorem od_mod : OpR X (binaryOp .Mod) (upF2 (fI (fun _ j => 0 < j) fun i j => .int (i % j))) := od_I op_mod fun _ _ _ _ => rfl
theorem od_pow : OpR X (binaryOp .Pow) (upF2 (fI CPow fun i j => .int (i ^ j.toNat))) := od_I op_pow fun _ _ _ _ => rfl
theorem od_lt : OpR X (compareOp .Lt) (upF2 (fI0 fun i j => .bl (decide (i < j)))) := od_I0 op_lt fun _ _ _ _ => rfl
theorem od_le : OpR X (compareOp .LtE) (upF2 (fI0 fun i j => .bl (decide (i ≤ j)))) := od_I0 op_le fun _ _ _ _ => rfl
theorem od_gt : OpR X (compareOp .Gt) (upF2 (fI0 fun i j => .bl (decide (j < i)))) := od_I0 op_gt fun _ _ _ _ => rfl
theorem od_ge : OpR X (compareOp .GtE) (upF2 (fI0 fun i j => .bl (decide (j ≤ i)))) := od_I0 op_ge fun _ _ _ _ => rfl
/-- a product; a list times an int -/
def fMul (m : Bool) : F2 := fun d e μ Q => match d, e with
  | .int i, .int j => CMul i j ∧ Q (.int (i * j)) μ
  | d, .int j => ∃ xs, Ls μ d xs ∧ 0 ≤ j ∧ j < 2 ^ 63 ∧ xs.length * j.toNat ≤ sizeLine ∧ New m (List.replicate j.toNat xs).flatten μ Q
  | _, _ => False
theorem VDs.rep {M : Ms} {H : Hp} {ds : List D} {vs : List V} (h : VDs M H ds vs) : ∀ n : Nat, VDs M H (List.replicate n ds).flatten (List.replicate n vs).flatten
  | 0 => rfl
  | n + 1 => by
    rw [List.replicate_succ, List.replicate_succ, List.flatten_cons, List.flatten_cons]
    exact h.append (VDs.rep h n)
theorem od_mul (m : Bool) : OpR X (binaryOp .Mult) (upF2 (fMul m)) := OpR.of (op_mul.or op_rep) fun x y H Q ⟨d, e, μ, QD, hx, hy, mh, h, k⟩ => by
  unfold fMul at h
  split at h
  · rename_i i j
    exact .inl ⟨i, j, hx, hy, h.1, k _ _ (lft_mk (d := .int _) mh rfl h.2)⟩
  · rename_i j _
    obtain ⟨xs, h1, h2, h3, h4, h5⟩ := h
    obtain ⟨a, vs, ex, f, g⟩ := h1.to mh hx
    refine .inr ⟨a, j, vs, ex, hy, f, by omega, h3, by rw [← g.length]; exact h4, ?_⟩
    exact fun p hp => k _ _ (lft_new mh (VDs.rep g j.toNat) hp h5)
  · exact h.elim
def fNeg : F1 := fun d μ Q => match d with
  | .int i => Q (.int (-i)) μ
  | _ => False
theorem ud_neg : UnR X (unaryOp .USub) (upF1 fNeg) := UnR.of un_neg fun x H Q ⟨d, μ, QD, hx, mh, h, k⟩ => by
  unfold fNeg at h
  split at h
  · rename_i i
    exact ⟨i, hx, k _ _ (lft_mk (d := .int _) mh rfl h)⟩
  · exact h.elim
/-- is None, is not None -/
def nonD : D → Bool
  | .non => true
  | _ => false
theorem nonD_of {M : Ms} {H : Hp} {d : D} {v : V} (h : VD M H d v) : decide (v = V.non) = nonD d := by
  cases d with
  | non => rw [show v = V.non from h]; rfl
  | bl b => rw [show v = V.bl b from h]; rfl
  | int b => rw [show v = V.int b from h]; rfl
  | str b => rw [show v = V.str b from h]; rfl
  | ty b => rw [show v = V.ty b from h]; rfl
  | «at» b => rw [show v = V.ref b from h]; rfl
  | lst b => obtain ⟨a, xs, e, _⟩ := h; rw [e]; rfl
  | tup b => obtain ⟨a, xs, e, _⟩ := h; rw [e]; rfl
def fIsN (n : Bool) : F2 := fun d e μ Q => match e with
  | .non => Q (.bl (if n then !nonD d else nonD d)) μ
  | _ => False
theorem od_isN : OpR X (compareOp .Is) (upF2 (fIsN false)) := OpR.of op_isN fun x y H Q ⟨d, e, μ, QD, hx, hy, mh, h, k⟩ => by
  unfold fIsN at h
  split at h
  · exact ⟨hy, by rw [nonD_of hx]; exact k _ _ (lft_mk (d := .bl _) mh rfl h)⟩
  · exact h.elim
theorem od_notN : OpR X (compareOp .IsNot) (upF2 (fIsN true)) := OpR.of op_notN fun x y H Q ⟨d, e, μ, QD, hx, hy, mh, h, k⟩ => by
  unfold fIsN at h
  split at h
  · exact ⟨hy, by rw [nonD_of hx]; exact k _ _ (lft_mk (d := .bl _) mh rfl h)⟩
  · exact h.elim

/-! ### items -/
theorem atI_rel {M : Ms} {H : Hp} {ds : List D} {vs : List V} {i : Int} {d : D} (g : VDs M H ds vs) (h : atI ds i = some d) : ∃ v, atI vs i = some v ∧ VD M H d v := by
  unfold atI at *
  rw [← g.length]
  cases e : ixN ds.length i with
  | none => rw [e] at h; cases h
  | some j =>
    rw [e] at h
    exact g.get h
def fIx : F2 := fun d e μ Q => match d, e with
  | .str z, .int i => ∃ c, z.length ≤ sizeLine ∧ atI z.cps.toList i = some c ∧ Q (.str ⟨#[c]⟩) μ
  | d, .int i => ∃ ds z, Sq μ d ds ∧ atI ds i = some z ∧ Q z μ
  | _, _ => False
theorem id_ix : IxR X (upF2 fIx) := IxR.of ix_seq fun x y H Q ⟨d, e, μ, QD, hx, hy, mh, h, k⟩ => by
  unfold fIx at h
  split at h
  · rename_i z i
    obtain ⟨c, h1, h2, h3⟩ := h
    exact .inr (.inr ⟨z, i, c, hx, hy, h1, h2, k _ _ (lft_mk (d := .str _) mh rfl h3)⟩)
  · rename_i i _
    obtain ⟨ds, z, h1, h2, h3⟩ := h
    obtain ⟨a, vs, ex, f, g⟩ := h1.to X.K mh hx
    obtain ⟨v, e1, e2⟩ := atI_rel g h2
    have q := k _ _ (lft_mk mh e2 h3)
    rcases f with f | f
    · exact .inl ⟨a, vs, i, v, ex, hy, f, e1, q⟩
    · exact .inr (.inl ⟨a, vs, i, v, ex, hy, f, e1, q⟩)
  · exact h.elim
end
end Dl

namespace Dl
open PySem PySem.Spec PyProof.Rows L2
variable {B : Bs}
/-! ### statements -/
structure Ed where
  nx : Rho → Mu → Prop
  rt : D → Mu → Prop
  bk : Rho → Mu → Prop := fun _ _ => False
  ct : Rho → Mu → Prop := fun _ _ => False
abbrev WS := Ed → Rho → Mu → Prop
structure EdLe (B : Bs) (DD : Ed) (E : Ends) (μ : Mu) (H : Hp) : Prop where
  nx : ∀ σ' H' ρ' μ', Step (MD μ) H (MD μ') H' → RS B (MD μ') H' ρ' σ' → MH μ' H' → DD.nx ρ' μ' → E.nx σ' H'
  rt : ∀ v H' d μ', Step (MD μ) H (MD μ') H' → MH μ' H' → VD (MD μ') H' d v → DD.rt d μ' → E.rt v H'
  bk : ∀ σ' H' ρ' μ', Step (MD μ) H (MD μ') H' → RS B (MD μ') H' ρ' σ' → MH μ' H' → DD.bk ρ' μ' → E.bk σ' H'
  ct : ∀ σ' H' ρ' μ', Step (MD μ) H (MD μ') H' → RS B (MD μ') H' ρ' σ' → MH μ' H' → DD.ct ρ' μ' → E.ct σ' H'
theorem EdLe.step {DD : Ed} {E : Ends} {μ μ1 : Mu} {H H1 : Hp} (s : Step (MD μ) H (MD μ1) H1) (l : EdLe B DD E μ H) : EdLe B DD E μ1 H1 :=
  ⟨fun σ H' ρ μ' a b c d => l.nx σ H' ρ μ' (s.trans a) b c d, fun v H' d μ' a b c e => l.rt v H' d μ' (s.trans a) b c e, fun σ H' ρ μ' a b c d => l.bk σ H' ρ μ' (s.trans a) b c d, fun σ H' ρ μ' a b c d => l.ct σ H' ρ μ' (s.trans a) b c d⟩
def upS (B : Bs) (w : WS) : TS := fun E σ H => ∃ ρ μ DD, RS B (MD μ) H ρ σ ∧ MH μ H ∧ w DD ρ μ ∧ EdLe B DD E μ H
abbrev JS (B : Bs) (X : Cx) (st : Stmt) (w : WS) : Prop := PS X st (upS B w)
abbrev JSs (B : Bs) (X : Cx) (st : List Stmt) (w : WS) : Prop := PSs X st (upS B w)
theorem PS.of {X : Cx} {st : Stmt} {t t' : TS} (h : PS X st t) (g : ∀ D σ H, t' D σ H → t D σ H) : PS X st t' := ⟨fun pins s σ H D I q => h.run pins s σ H D I (g D σ H q)⟩
theorem PSs.of {X : Cx} {st : List Stmt} {t t' : TS} (h : PSs X st t) (g : ∀ D σ H, t' D σ H → t D σ H) : PSs X st t' := ⟨fun pins s σ H D I q => h.run pins s σ H D I (g D σ H q)⟩
def wNext : WS := fun DD ρ μ => DD.nx ρ μ
def wSeq (a b : WS) : WS := fun DD ρ μ => a { nx := fun ρ1 μ1 => b DD ρ1 μ1, rt := DD.rt, bk := DD.bk, ct := DD.ct } ρ μ
def wDrop (a : WE) : WS := fun DD ρ μ => a ρ μ fun _ μ1 => DD.nx ρ μ1
def wRet (a : WE) : WS := fun DD ρ μ => a ρ μ fun d μ1 => DD.rt d μ1
def wRetN : WS := fun DD _ μ => DD.rt .non μ
def wIf (t : WT) (a b : WS) : WS := fun DD ρ μ => t ρ μ fun c μ1 => Br c (a DD ρ μ1) (b DD ρ μ1)
def wSet (i : Nat) (a : WE) : WS := fun DD ρ μ => a ρ μ fun d μ1 => DD.nx (ρ.set i (some d)) μ1
def wBreak : WS := fun DD ρ μ => DD.bk ρ μ
def wCont : WS := fun DD ρ μ => DD.ct ρ μ
def wNever : WS := fun _ _ _ => False
section
variable {X : Cx} {st : Stmt} {rest : List Stmt} {a b : WS} {e : Expr} {w : WE} {t : WT} {pos : Pos}
theorem jss_nil : JSs B X [] wNext := PSs.of pss_nil fun E σ H ⟨ρ, μ, DD, rs, m, h, l⟩ => l.nx σ H ρ μ .refl rs m h
theorem jss_cons (h1 : JS B X st a) (h2 : JSs B X rest b) : JSs B X (st :: rest) (wSeq a b) := PSs.of (pss_cons h1 h2) fun E σ H ⟨ρ, μ, DD, rs, m, h, l⟩ =>
  ⟨ρ, μ, _, rs, m, h, ⟨fun σ' H' ρ' μ' s r m' q => ⟨ρ', μ', DD, r, m', q, l.step s⟩, l.rt, l.bk, l.ct⟩⟩
theorem jss_one (h1 : JS B X st a) : JSs B X [st] a := pss_one h1
theorem js_pass : JS B X (.Pass pos) wNext := PS.of ps_pass fun E σ H ⟨ρ, μ, DD, rs, m, h, l⟩ => l.nx σ H ρ μ .refl rs m h
theorem js_break : JS B X (.Break pos) wBreak := PS.of ps_break fun E σ H ⟨ρ, μ, DD, rs, m, h, l⟩ => l.bk σ H ρ μ .refl rs m h
theorem js_continue : JS B X (.Continue pos) wCont := PS.of ps_continue fun E σ H ⟨ρ, μ, DD, rs, m, h, l⟩ => l.ct σ H ρ μ .refl rs m h
theorem js_doc {x j pos pos'} : JS B X (.Expr (.Constant (.str x) j pos) pos') wNext := PS.of ps_doc fun E σ H ⟨ρ, μ, DD, rs, m, h, l⟩ => l.nx σ H ρ μ .refl rs m h
theorem js_never : JS B X st wNever := PS.of ps_never fun E σ H ⟨ρ, μ, DD, rs, m, h, l⟩ => h
theorem jss_never : JSs B X rest wNever := PSs.of pss_never fun E σ H ⟨ρ, μ, DD, rs, m, h, l⟩ => h
theorem js_expr (he : JE B X e w) (hs : swapsWith e none pos.line X.env = pure false := by rfl) : JS B X (.Expr e pos) (wDrop w) := PS.of (ps_expr he hs) fun E σ H ⟨ρ, μ, DD, rs, m, h, l⟩ =>
  up_mk rs m h fun v H' d μ' s m' _ q => l.nx σ H' ρ μ' s (rs.step s) m' q
theorem js_ret (he : JE B X e w) : JS B X (.Return (some e) pos) (wRet w) := PS.of (ps_ret he) fun E σ H ⟨ρ, μ, DD, rs, m, h, l⟩ => up_mk rs m h fun v H' d μ' s m' r q => l.rt v H' d μ' s m' r q
theorem js_retN : JS B X (.Return none pos) wRetN := PS.of ps_retN fun E σ H ⟨ρ, μ, DD, rs, m, h, l⟩ => l.rt .non H .non μ .refl m rfl h
theorem js_if {c : Expr} {x y : List Stmt} (hc : JT B X c t) (ha : JSs B X x a) (hb : JSs B X y b) : JS B X (.If c x y pos) (wIf t a b) := PS.of (ps_if hc ha hb) fun E σ H ⟨ρ, μ, DD, rs, m, h, l⟩ =>
  upT_mk rs m h fun k H1 μ1 s1 m1 h1 => (h1.mono (fun q => ⟨ρ, μ1, DD, rs.step s1, m1, q, l.step s1⟩) fun q => ⟨ρ, μ1, DD, rs.step s1, m1, q, l.step s1⟩).ite
theorem js_set (i : Nat) {x : Str} {pos' : Pos} (he : JE B X e w) (hN : X.N.Nodup) (hi : X.N[i]? = some x := by rfl) (hx : Loc X.env.scope x := by first | exact Or.inl rfl | exact Or.inr rfl) (hs : swapsWith e (some (.Name x pos')) pos.line X.env = pure false := by rfl)
    (hf : X.fn x = true ∨ X.env.scope.names.lookup x = some .local := by first | exact .inl rfl | exact .inr rfl) : JS B X (.Assign [.Name x pos'] e pos) (wSet i w) := PS.of (ps_set hN hi hx he hs hf) fun E σ H ⟨ρ, μ, DD, rs, m, h, l⟩ =>
  up_mk rs m h fun v H' d μ' s m' r q => l.nx _ H' _ μ' s ((rs.step s).set i r) m' q
end

/-! ### targets -/
abbrev WG := D → Rho → Mu → (Rho → Mu → Prop) → Prop
abbrev WGs := List D → Rho → Mu → (Rho → Mu → Prop) → Prop
def upG (B : Bs) (w : WG) : TG := fun v σ H Q => ∃ d ρ μ QD, VD (MD μ) H d v ∧ RS B (MD μ) H ρ σ ∧ MH μ H ∧ w d ρ μ QD ∧ ∀ σ' H' ρ' μ', Step (MD μ) H (MD μ') H' → RS B (MD μ') H' ρ' σ' → MH μ' H' → QD ρ' μ' → Q σ' H'
def upGs (B : Bs) (w : WGs) : TGs := fun vs σ H Q => ∃ ds ρ μ QD, VDs (MD μ) H ds vs ∧ RS B (MD μ) H ρ σ ∧ MH μ H ∧ w ds ρ μ QD ∧ ∀ σ' H' ρ' μ', Step (MD μ) H (MD μ') H' → RS B (MD μ') H' ρ' σ' → MH μ' H' → QD ρ' μ' → Q σ' H'
abbrev JG (B : Bs) (X : Cx) (e : Expr) (w : WG) : Prop := PG X e (upG B w)
abbrev JGs (B : Bs) (X : Cx) (es : List Expr) (w : WGs) : Prop := PGs X es (upGs B w)
theorem PG.of {X : Cx} {e : Expr} {t t' : TG} (h : PG X e t) (g : ∀ v σ H Q, t' v σ H Q → t v σ H Q) : PG X e t' := ⟨fun pins s σ H v u Q I r q => h.run pins s σ H v u Q I r (g v σ H Q q)⟩
theorem PGs.of {X : Cx} {es : List Expr} {t t' : TGs} (h : PGs X es t) (g : ∀ v σ H Q, t' v σ H Q → t v σ H Q) : PGs X es t' := ⟨fun pins s σ H v u Q I r q => h.run pins s σ H v u Q I r (g v σ H Q q)⟩
def wgName (i : Nat) : WG := fun d ρ μ Q => Q (ρ.set i (some d)) μ
def wgNil : WGs := fun ds ρ μ Q => ds = [] ∧ Q ρ μ
def wgCons (a : WG) (r : WGs) : WGs := fun ds ρ μ Q => ∃ d es, ds = d :: es ∧ a d ρ μ fun ρ1 μ1 => r es ρ1 μ1 Q
/-- (a, b, ..) = a tuple -/
def wgTup (n : Nat) (r : WGs) : WG := fun d ρ μ Q => match d with
  | .tup ds => ds.length = n ∧ r ds ρ μ Q
  | _ => False
section
variable {X : Cx} {e : Expr} {es : List Expr} {a : WG} {r : WGs} {pos : Pos}
theorem jg_name (i : Nat) {x : Str} (hN : X.N.Nodup) (hi : X.N[i]? = some x := by rfl) (hx : Loc X.env.scope x := by first | exact Or.inl rfl | exact Or.inr rfl) (hf : X.fn x = true ∨ X.env.scope.names.lookup x = some .local := by first | exact .inl rfl | exact .inr rfl) : JG B X (.Name x pos) (wgName i) :=
  PG.of (pg_name hN hi hx hf) fun v σ H Q ⟨d, ρ, μ, QD, vd, rs, m, h, k⟩ => k _ H _ μ .refl (rs.set i vd) m h
theorem jgs_nil : JGs B X [] wgNil := PGs.of pgs_nil fun v σ H Q ⟨ds, ρ, μ, QD, vd, rs, m, ⟨e, h⟩, k⟩ => ⟨by subst e; exact vd, k σ H ρ μ .refl rs m h⟩
theorem jgs_cons (h1 : JG B X e a) (h2 : JGs B X es r) (hs : (assignEach (e :: es) X.env).map (·.2) = assign e X.env :: (assignEach es X.env).map (·.2) := by rfl) : JGs B X (e :: es) (wgCons a r) := PGs.of (pgs_cons h1 h2 hs) fun v σ H Q ⟨ds, ρ, μ, QD, vd, rs, m, ⟨d, es', e, h⟩, k⟩ => by
  subst e
  obtain ⟨x, xs, rfl, v1, v2⟩ := vd
  exact ⟨x, xs, rfl, d, ρ, μ, _, v1, rs, m, h, fun σ' H' ρ' μ' s rs' m' h' => ⟨es', ρ', μ', QD, VDs.step s _ _ v2, rs', m', h', fun σ2 H2 ρ2 μ2 s2 => k σ2 H2 ρ2 μ2 (s.trans s2)⟩⟩
theorem jg_tup {k : Nat} (n : Nat) (hc : X.calm = true) (h : JGs B X es r) (hn : (assignEach es X.env).length = n := by rfl) (hst : (assignEach es X.env).findIdx? (·.1) = none := by rfl) : JG B X (.Tuple es k pos) (wgTup n r) := PG.of (pg_tup hc h hn hst) fun v σ H Q ⟨d, ρ, μ, QD, vd, rs, m, h, kk⟩ => by
  unfold wgTup at h
  split at h
  · rename_i ds
    obtain ⟨p, xs, ev, f, g⟩ := vd
    exact ⟨p, xs, ev, SqT.of f.2, by rw [← g.length]; exact h.1, ds, ρ, μ, QD, g, rs, m, h.2, kk⟩
  · exact h.elim
/-- o[i] = v by data: Q of the store behind it -/
abbrev F3 := D → D → D → Mu → (Mu → Prop) → Prop
def upF3 (r : F3) : TSet := fun x y z H Q => ∃ d e f μ QD, VD (MD μ) H d x ∧ VD (MD μ) H e y ∧ VD (MD μ) H f z ∧ MH μ H ∧ r d e f μ QD ∧ ∀ H' μ', Step (MD μ) H (MD μ') H' → MH μ' H' → QD μ' → Q H'
theorem PSet.of {t t' : TSet} (h : PSet X t) (g : ∀ x y z H Q, t' x y z H Q → t x y z H Q) : PSet X t' := fun pins s σ H x y z a b c Q I r1 r2 r3 q => h pins s σ H x y z a b c Q I r1 r2 r3 (g x y z H Q q)
def wgSub (o i : WE) (t : F3) : WG := fun v ρ μ Q => o ρ μ fun d μ1 => i ρ μ1 fun e μ2 => t d e v μ2 fun μ3 => Q ρ μ3
theorem jg_sub {o i : Expr} {wo wi : WE} {t : F3} (ho : JE B X o wo) (hi : JE B X i wi) (hs : PSet X (upF3 t)) (hsl : ∀ v, assign (.Subscript o i pos) X.env v = (do let ov ← holding [v] (eval o X.env); let iv ← holding [v, ov] (eval i X.env); standAt pos; holding [v, ov, iv] (setItem ov iv v); release [v, ov, iv] []) := by intro _; rfl) : JG B X (.Subscript o i pos) (wgSub wo wi t) :=
  PG.of (pg_sub ho hi hs hsl) fun v σ H Q ⟨f, ρ, μ, QD, vd, rs, m, h, k⟩ => up_mk rs m h fun x H1 d μ1 s1 m1 v1 h1 => up_mk (rs.step s1) m1 h1 fun y H2 e μ2 s2 m2 v2 h2 =>
    ⟨d, e, f, μ2, _, VD.step s2 _ _ v1, v2, VD.step (s1.trans s2) _ _ vd, m2, h2, fun H3 μ3 s3 m3 h3 => k _ H3 _ μ3 ((s1.trans s2).trans s3) (rs.step ((s1.trans s2).trans s3)) m3 h3⟩
/-- xs[k] = v -/
def f3List : F3 := fun d e v μ Q => match d, e with
  | .at l, .int k => ∃ ds j, μ l = some (.lst ds) ∧ ixN ds.length k = some j ∧ Q (put μ l (.lst (ds.set j v)))
  | _, _ => False
theorem set_lst : PSet X (upF3 f3List) := PSet.of set_list fun x y z H Q ⟨d, e, f, μ, QD, v1, v2, v3, m, h, k⟩ => by
  unfold f3List at h
  split at h
  · rename_i l i
    obtain ⟨ds, j, h1, h2, h3⟩ := h
    obtain ⟨xs, e1, g⟩ := m l _ h1
    have st : Step (MD μ) H (MD (put μ l (.lst (ds.set j f)))) (upd H l (.lst (xs.set j z))) := .write ⟨_, h1⟩
    exact ⟨l, xs, i, j, v1, v2, e1, by rw [← g.length]; exact h2, k _ _ st (m.write ⟨_, h1⟩ ⟨_, upd_same, VDs.step st _ _ (g.set j v3)⟩) h3⟩
  · exact h.elim
end
/-! ### assignments -/
def wAsg (a : WE) (g : WG) : WS := fun DD ρ μ => a ρ μ fun d μ1 => g d ρ μ1 fun ρ2 μ2 => DD.nx ρ2 μ2
section
variable {X : Cx} {e tg : Expr} {w : WE} {g : WG} {pos : Pos}
theorem js_asg (he : JE B X e w) (hg : JG B X tg g) (hs : swapsWithSole [tg] e pos.line X.env = pure false := by rfl) (hw : swappedStores [tg] e X.env = pure none := by rfl) (h1 : (assignEach [tg] X.env).map (·.2) = [assign tg X.env] := by rfl) : JS B X (.Assign [tg] e pos) (wAsg w g) := PS.of (ps_asg he hg hs hw h1) fun E σ H ⟨ρ, μ, DD, rs, m, h, l⟩ =>
  up_mk rs m h fun v H1 d μ1 s1 m1 v1 h1 => ⟨d, ρ, μ1, _, v1, rs.step s1, m1, h1, fun σ' H' ρ' μ' s2 r2 m2 q => l.nx σ' H' ρ' μ' (s1.trans s2) r2 m2 q⟩
/-- a, b = x, y -/
def wPar (i j : Nat) (a : WA) : WS := fun DD ρ μ => a ρ μ fun ds μ1 => ∃ d e, ds = [d, e] ∧ DD.nx ((ρ.set i (some d)).set j (some e)) μ1
theorem js_par (i j : Nat) {x y : Str} {a b : Expr} {wa : WA} {px py pt : Pos} {kt k2 pt2} (ha : JA B X [a, b] wa) (hN : X.N.Nodup) (hc : X.calm = true := by rfl) (hi : X.N[i]? = some x := by rfl) (hj : X.N[j]? = some y := by rfl) (hij : i ≠ j := by decide)
    (hx : X.env.scope.names.lookup x = some .local := by rfl) (hy : X.env.scope.names.lookup y = some .local := by rfl)
    (hw : swappedStores [.Tuple [.Name x px, .Name y py] kt pt] (.Tuple [a, b] k2 pt2) X.env = pure (some [x, y]) := by rfl)
    (hs : swapsWithSole [.Tuple [.Name x px, .Name y py] kt pt] (.Tuple [a, b] k2 pt2) pos.line X.env = pure false := by rfl) :
    JS B X (.Assign [.Tuple [.Name x px, .Name y py] kt pt] (.Tuple [a, b] k2 pt2) pos) (wPar i j wa) := PS.of (ps_par hc hN hi hj hij hx hy ha hw hs) fun E σ H ⟨ρ, μ, DD, rs, m, h, l⟩ =>
  ⟨ρ, μ, _, rs, m, h, fun vs H1 ds μ1 s1 m1 v1 ⟨d, e, eq, q⟩ => by
    subst eq
    obtain ⟨v, ws, rfl, r1, u, us, rfl, r2, e2⟩ := v1
    rw [show us = [] from e2]
    exact ⟨v, u, rfl, l.nx _ H1 _ μ1 s1 (((rs.step s1).set i r1).set j r2) m1 q⟩⟩
end

/-! ### what is forgotten -/
/-- fewer names, fewer addresses -/
inductive Fg : Rho → Rho → Prop
  | nil : Fg [] []
  | keep {x : Option D} {a b : Rho} : Fg a b → Fg (x :: a) (x :: b)
  | drop {x : Option D} {a b : Rho} : Fg a b → Fg (x :: a) (none :: b)
theorem Fg.refl : ∀ ρ : Rho, Fg ρ ρ
  | [] => .nil
  | _ :: ρ => .keep (Fg.refl ρ)
theorem Fg.length : ∀ {a b : Rho}, Fg a b → a.length = b.length
  | _, _, .nil => rfl
  | _, _, .keep h => congrArg (· + 1) h.length
  | _, _, .drop h => congrArg (· + 1) h.length
theorem Fg.at : ∀ {a b : Rho} {i : Nat} {d : D}, Fg a b → b[i]? = some (some d) → a[i]? = some (some d)
  | _, _, _, _, .nil, e => e
  | _, _, 0, _, .keep h, e => e
  | _, _, 0, _, .drop h, e => by simp at e
  | _, _, i + 1, _, .keep h, e => by
    rw [List.getElem?_cons_succ] at *
    exact h.at e
  | _, _, i + 1, _, .drop h, e => by
    rw [List.getElem?_cons_succ] at *
    exact h.at e
def Less (μ μ' : Mu) : Prop := ∀ a, μ' a = none ∨ μ' a = μ a
theorem Less.refl (μ : Mu) : Less μ μ := fun _ => .inr rfl
theorem Less.put {μ0 μ : Mu} {l : Addr} {o : O} (h : Less μ μ0) (n : μ0 l = none) : Less (put μ l o) μ0 := fun a => by
  by_cases e : a = l
  · subst e
    exact .inl n
  · rw [put_ne e]
    exact h a
theorem Less.trans {a b c : Mu} (h : Less a b) (g : Less b c) : Less a c := fun x => by
  rcases g x with e | e
  · exact .inl e
  · rw [e]
    exact h x
theorem Less.step {μ μ' : Mu} (h : Less μ μ') {H : Hp} : Step (MD μ) H (MD μ') H := ⟨fun _ _ _ e => e, fun a ⟨o, e⟩ => by
  rcases h a with q | q
  · rw [q] at e; cases e
  · exact .inl ⟨o, q ▸ e⟩⟩
theorem Less.mh {μ μ' : Mu} {H : Hp} (h : Less μ μ') (m : MH μ H) : MH μ' H := fun a o e => by
  rcases h a with q | q
  · rw [q] at e; cases e
  · exact (m a o (q ▸ e)).step h.step rfl
/-- a state may be told with less -/
def wk (P : Rho → Mu → Prop) (ρ : Rho) (μ : Mu) : Prop := ∃ ρ' μ', Fg ρ ρ' ∧ Less μ μ' ∧ P ρ' μ'
theorem wk.same {P : Rho → Mu → Prop} {ρ : Rho} {μ : Mu} (h : P ρ μ) : wk P ρ μ := ⟨ρ, μ, .refl _, .refl _, h⟩
theorem RS.fg {M : Ms} {H : Hp} {ρ ρ' : Rho} {σ : L2.St} (f : Fg ρ ρ') (r : RS B M H ρ σ) : RS B M H ρ' σ := ⟨f.length.symm.trans r.1, fun i d e => r.2.1 i d (f.at e), r.2.2⟩

/-! ### what is walked -/
abbrev WI := Rho → Mu → (List D → (Mu → Prop) → Mu → Prop) → Prop
/-- J gives the items ds one by one, as long as kp stands -/
def Gives (J : It) (μ1 : Mu) (H1 : Hp) (ds : List D) (kp : Mu → Prop) : Prop := Walk J ds.length (fun H => ∃ μ, Step (MD μ1) H1 (MD μ) H ∧ MH μ H ∧ kp μ)
  (fun i H x H' => ∀ μ, Step (MD μ1) H1 (MD μ) H → MH μ H → kp μ → ∃ d, ds[i]? = some d ∧ Step (MD μ) H (MD μ) H' ∧ MH μ H' ∧ VD (MD μ) H' d x)
def upI (B : Bs) (w : WI) : TI := fun σ H R => ∃ ρ μ QD, RS B (MD μ) H ρ σ ∧ MH μ H ∧ w ρ μ QD ∧ ∀ J H' ds kp μ', Step (MD μ) H (MD μ') H' → MH μ' H' → Gives J μ' H' ds kp → QD ds kp μ' → R J H'
abbrev JI (B : Bs) (X : Cx) (tg e : Expr) (w : WI) : Prop := PI X tg e (upI B w)
theorem PI.of {X : Cx} {tg e : Expr} {t t' : TI} (h : PI X tg e t) (g : ∀ σ H R, t' σ H R → t σ H R) : PI X tg e t' := ⟨fun pins s σ H R I q => h.run pins s σ H R I (g σ H R q)⟩
def wIt (a : WE) : WI := fun ρ μ Q => a ρ μ fun d μ1 => ∃ ds, Lr μ1 d ds ∧ Q ds (fun μ => Lr μ d ds) μ1
def wItT (a : WE) : WI := fun ρ μ Q => a ρ μ fun d μ1 => ∃ ds, d = .tup ds ∧ Q ds (fun _ => True) μ1
def wRng1 (a : WA) : WI := fun ρ μ Q => a ρ μ fun vs μ1 => ∃ j, vs = [.int j] ∧ -(2 ^ 62) ≤ j ∧ j < 2 ^ 62 ∧ Q ((List.range j.toNat).map fun i : Nat => .int i) (fun _ => True) μ1
section
variable {X : Cx} {tg e : Expr} {w : WE}
theorem ji_list (h : JE B X e w) : JI B X tg e (wIt w) := PI.of (pi_list h) fun σ H R ⟨ρ, μ, QD, rs, m, h, k⟩ => up_mk rs m h fun v H1 d μ1 s1 m1 v1 ⟨ds, hl, h1⟩ => by
  obtain ⟨a, xs, ev, r, g⟩ := hl.to m1 v1
  have ha : ∀ μ H2, Step (MD μ1) H1 (MD μ) H2 → MH μ H2 → Lr μ d ds → ∃ ys, SqL X.K H2 a ys ∧ VDs (MD μ) H2 ds ys := fun μ H2 st mh kp => by
    obtain ⟨b, ys, eb, rb, gb⟩ := kp.to mh (VD.step st _ _ v1)
    rw [ev] at eb
    cases eb
    exact ⟨ys, .inl rb, gb⟩
  refine ⟨a, ev, ⟨xs, .inl r⟩, k _ H1 ds (fun μ => Lr μ d ds) μ1 s1 m1 ⟨fun i H2 hi ⟨μ, st, mh, kp⟩ => ?_, fun H2 ⟨μ, st, mh, kp⟩ => ?_, fun i H2 x H' hi _ ⟨e1, e2⟩ μ st mh kp => ?_⟩ h1⟩
  · obtain ⟨ys, q, gb⟩ := ha μ H2 st mh kp
    obtain ⟨y, hy, _⟩ := gb.get (List.getElem?_eq_getElem hi)
    exact ⟨ys, y, q, hy⟩
  · obtain ⟨ys, q, gb⟩ := ha μ H2 st mh kp
    exact ⟨ys, q, Nat.le_of_eq gb.length.symm⟩
  · obtain ⟨ys, q, gb⟩ := ha μ H2 st mh kp
    subst e1
    obtain ⟨d', hd, hv⟩ := gb.of_get (e2 ys q)
    exact ⟨d', hd, .refl, mh, hv⟩
theorem ji_tup (h : JE B X e w) : JI B X tg e (wItT w) := PI.of (pi_tup h) fun σ H R ⟨ρ, μ, QD, rs, m, h, k⟩ => up_mk rs m h fun v H1 d μ1 s1 m1 v1 ⟨ds, hl, h1⟩ => by
  subst hl
  obtain ⟨a, xs, ev, r, g⟩ := id v1
  have ha : ∀ μ H2, Step (MD μ1) H1 (MD μ) H2 → MH μ H2 → ∃ ys, SqT X.K H2 a ys ∧ VDs (MD μ) H2 ds ys := fun μ H2 st mh => by
    obtain ⟨b, ys, eb, rb, gb⟩ := VD.step st _ _ v1
    rw [ev] at eb
    cases eb
    exact ⟨ys, SqT.of rb.2, gb⟩
  refine ⟨a, ev, ⟨xs, SqT.of r.2⟩, k _ H1 ds (fun _ => True) μ1 s1 m1 ⟨fun i H2 hi ⟨μ, st, mh, kp⟩ => ?_, fun H2 ⟨μ, st, mh, kp⟩ => ?_, fun i H2 x H' hi _ ⟨e1, e2⟩ μ st mh kp => ?_⟩ h1⟩
  · obtain ⟨ys, q, gb⟩ := ha μ H2 st mh
    obtain ⟨y, hy, _⟩ := gb.get (List.getElem?_eq_getElem hi)
    exact ⟨ys, y, q, hy⟩
  · obtain ⟨ys, q, gb⟩ := ha μ H2 st mh
    exact ⟨ys, q, Nat.le_of_eq gb.length.symm⟩
  · obtain ⟨ys, q, gb⟩ := ha μ H2 st mh
    subst e1
    obtain ⟨d', hd, hv⟩ := gb.of_get (e2 ys q)
    exact ⟨d', hd, .refl, mh, hv⟩
theorem ji_range1 {a : Expr} {wa : WA} {p pos : Pos} (hm : X.mg "range" = none) (ha : JA B X [a] wa) (hg : Gl X "range" := by rfl) (hs : starEach [a] X.env = [(false, eval a X.env)] := by rfl) : JI B X tg (.Call (.Name "range" p) [a] [] pos) (wRng1 wa) := PI.of (pi_range1 hg hm ha hs) fun σ H R ⟨ρ, μ, QD, rs, m, h, k⟩ =>
  ⟨ρ, μ, _, rs, m, h, fun vs H1 ds μ1 s1 m1 v1 ⟨j, ej, h1, h2, h3⟩ => by
    subst ej
    obtain ⟨v, ws, rfl, r1, e2⟩ := v1
    rw [show v = V.int j from r1, show ws = [] from e2]
    refine ⟨j, rfl, h1, h2, k _ H1 _ _ μ1 s1 m1 ⟨fun i H2 hi _ => ?_, fun H2 _ => ?_, fun i H2 x H' hi _ ⟨q1, q2⟩ μ st mh kp => ?_⟩ h3⟩
    · have hi' : i < j.toNat := by simpa using hi
      exact hi'
    · show j.toNat ≤ _
      simp
    · subst q1 q2
      have hi' : i < j.toNat := by simpa using hi
      refine ⟨.int i, by simp [hi'], .refl, mh, ?_⟩
      show V.int (0 + (i : Int)) = V.int i
      rw [Int.zero_add]⟩
end

/-! ### for -/
def wFor (wi : WI) (g : WG) (b : WS) : WS := fun DD ρ μ => wi ρ μ fun ds kp μ1 => ∃ P : Nat → Rho → Mu → Prop, wk (P 0) ρ μ1 ∧ (∀ i ρ μ, i ≤ ds.length → P i ρ μ → kp μ) ∧
  (∀ i d ρ μ, ds[i]? = some d → P i ρ μ → g d ρ μ fun ρ2 μ2 => b { nx := wk (P (i + 1)), rt := DD.rt, bk := DD.nx, ct := wk (P (i + 1)) } ρ2 μ2) ∧ (∀ ρ μ, P ds.length ρ μ → DD.nx ρ μ)
section
variable {X : Cx} {tg iter : Expr} {body : List Stmt} {wi : WI} {g : WG} {b : WS} {pos : Pos}
theorem js_for (hp : PassesOwn (model X.prog X.w) X.A X.env X.xe) (hi : JI B X tg iter wi) (hg : JG B X tg g) (hb : JSs B X body b) (hc : X.calm = true := by rfl) (hs : ∀ x, foldedSetIterable iter X.env x = pure x := by intro _; rfl) : JS B X (.For tg iter body [] pos) (wFor wi g b) :=
  PS.of (ps_for hp hc hi hg hb hs) fun E σ H ⟨ρ, μ, DD, rs, m, h, l⟩ => ⟨ρ, μ, _, rs, m, h, fun J H1 ds kp μ1 s1 m1 gv ⟨P, p0, pk, ps, pd⟩ => by
    have l1 := l.step s1
    refine for_it gv (fun i σ H2 => ∃ ρ μ, Step (MD μ1) H1 (MD μ) H2 ∧ RS B (MD μ) H2 ρ σ ∧ MH μ H2 ∧ P i ρ μ) ?_ ?_ ?_ ?_
    · obtain ⟨ρ', μ', f, le, p⟩ := p0
      exact ⟨ρ', μ', le.step, ((rs.step s1).step le.step).fg f, le.mh m1, p⟩
    · rintro i σ H2 hi ⟨ρ, μ, st, rs, mh, p⟩
      exact ⟨μ, st, mh, pk i ρ μ hi p⟩
    · rintro i x σ H2 H3 hi ⟨ρ, μ, st, rs, mh, p⟩ y
      obtain ⟨d, hd, st2, mh2, vd⟩ := y μ st mh (pk i ρ μ (Nat.le_of_lt hi) p)
      have st3 := st.trans st2
      refine ⟨d, ρ, μ, _, vd, rs.step st2, mh2, ps i d ρ μ hd p, fun σ4 H4 ρ4 μ4 s4 r4 m4 q4 => ⟨ρ4, μ4, _, r4, m4, q4, ?_⟩⟩
      have l4 := l1.step (st3.trans s4)
      have back : ∀ σ' H' ρ' μ', Step (MD μ4) H4 (MD μ') H' → RS B (MD μ') H' ρ' σ' → MH μ' H' → wk (P (i + 1)) ρ' μ' → ∃ ρ μ, Step (MD μ1) H1 (MD μ) H' ∧ RS B (MD μ) H' ρ σ' ∧ MH μ H' ∧ P (i + 1) ρ μ := fun σ' H' ρ' μ' s r mm ⟨ρ5, μ5, f, le, p5⟩ =>
        ⟨ρ5, μ5, ((st3.trans s4).trans s).trans le.step, (r.step le.step).fg f, le.mh mm, p5⟩
      exact ⟨back, l4.rt, l4.nx, back⟩
    · rintro σ H2 ⟨ρ, μ, st, rs, mh, p⟩
      exact l1.nx σ H2 ρ μ st rs mh (pd ρ μ p)⟩
end

/-! ### while -/
def wWhile (t : WT) (b : WS) : WS := fun DD ρ μ => ∃ P : Nat → Rho → Mu → Prop, (∃ n, wk (P n) ρ μ) ∧ ∀ n ρ μ, P n ρ μ → t ρ μ fun c μ1 => Br c (b { nx := fun ρ2 μ2 => ∃ k, k < n ∧ wk (P k) ρ2 μ2, rt := DD.rt, bk := DD.nx, ct := fun ρ2 μ2 => ∃ k, k < n ∧ wk (P k) ρ2 μ2 } ρ μ1) (DD.nx ρ μ1)
theorem js_while {X : Cx} {c : Expr} {body : List Stmt} {t : WT} {b : WS} {pos : Pos} (hp : PassesOwn (model X.prog X.w) X.A X.env X.xe) (hc : JT B X c t) (hb : JSs B X body b) : JS B X (.While c body [] pos) (wWhile t b) :=
  PS.of (ps_while hp hc hb) fun E σ H ⟨ρ, μ, DD, rs, m, ⟨P, ⟨n, ρ0, μ0, f, le, p0⟩, ps⟩, l⟩ => by
    refine ⟨fun n σ H2 => ∃ ρ' μ', Step (MD μ) H (MD μ') H2 ∧ RS B (MD μ') H2 ρ' σ ∧ MH μ' H2 ∧ P n ρ' μ', ⟨n, ρ0, μ0, le.step, (rs.step le.step).fg f, le.mh m, p0⟩, ?_⟩
    rintro k σ2 H2 ⟨ρ2, μ2, st, rs2, mh, p⟩
    refine upT_mk rs2 mh (ps k ρ2 μ2 p) fun c H3 μ3 s3 m3 h3 => (h3.mono (fun q => ?_) fun q => ?_).ite
    · refine ⟨fun σ' H' => ∃ j, j < k ∧ ∃ ρ' μ', Step (MD μ) H (MD μ') H' ∧ RS B (MD μ') H' ρ' σ' ∧ MH μ' H' ∧ P j ρ' μ', fun σ' H' ⟨j, hj, q⟩ => ⟨j, hj, q⟩, ρ2, μ3, _, rs2.step s3, m3, q, ?_⟩
      have l4 := l.step (st.trans s3)
      have back : ∀ σ' H' ρ' μ', Step (MD μ3) H3 (MD μ') H' → RS B (MD μ') H' ρ' σ' → MH μ' H' → (∃ j, j < k ∧ wk (P j) ρ' μ') → ∃ j, j < k ∧ ∃ ρ' μ', Step (MD μ) H (MD μ') H' ∧ RS B (MD μ') H' ρ' σ' ∧ MH μ' H' ∧ P j ρ' μ' := fun σ' H' ρ' μ' s r mm ⟨j, hj, ρ5, μ5, f, le, p5⟩ =>
        ⟨j, hj, ρ5, μ5, ((st.trans s3).trans s).trans le.step, (r.step le.step).fg f, le.mh mm, p5⟩
      exact ⟨back, l4.rt, l4.nx, back⟩
    · exact l.nx σ2 H3 ρ2 μ3 (st.trans s3) (rs2.step s3) m3 q
end Dl

namespace Dl
open PySem PySem.Spec PyProof.Rows L2
variable {B : Bs}
/-! ### what a def promises, over data -/
abbrev XD := Value → List (Str × D) → Mu → Prop
abbrev SpD := List D → Mu → DQ → XD → Prop
/-- an exception's own fields -/
def Flds (M : Ms) (H : Hp) (d : Option Addr) (fs : List (Str × D)) : Prop := match d with
  | none => fs = []
  | some dd => ∃ gs, H dd = some (.xd gs) ∧ KD M H fs gs
def lftX (μ : Mu) (H : Hp) (E : XD) : XK := fun cls d H' => ∃ fs μ', Step (MD μ) H (MD μ') H' ∧ MH μ' H' ∧ Flds (MD μ') H' d fs ∧ E cls fs μ'
def toSp (sp : SpD) : Sp := fun vs H Q E => ∃ ds μ QD ED, VDs (MD μ) H ds vs ∧ MH μ H ∧ sp ds μ QD ED ∧ (∀ v H', lft μ H QD v H' → Q v H') ∧ ∀ cls d H', lftX μ H ED cls d H' → E cls d H'
/-- a wish about exceptions, with the names -/
abbrev WXD := Value → List (Str × D) → Rho → Mu → Prop
def upX (B : Bs) (W : WXD) : WX := fun cls d σ H => ∃ fs ρ μ, Flds (MD μ) H d fs ∧ RS B (MD μ) H ρ σ ∧ MH μ H ∧ W cls fs ρ μ
/-- at f stands a def that keeps the promise, where nothing is being shown (repr) around it -/
structure FnG (P : Program) (w : World) (K : Frg) (mg : Str → Option Value) (base : Heap) (k : Nat) (f : Addr) (fd : FuncData) (ps : List Str) (sp : SpD) : Prop where
  len : ∀ ds μ Q E, sp ds μ Q E → ds.length = ps.length
  run : ∀ (A : Around) (outer : List Env) (s : Shared) (H : Hp) (args : Args) (us : List Value) (vs : List V) (Q : VK) (E : XK), A.guards = some [] → Room k A → Env0 P w K mg base A outer s H → BindsTo s fd args (ps.zip us) → Vals vs us → toSp sp vs H Q E →
    codeAny (model P w) A (.call (.ref f) args) (CR (L2.CX P w) outer P w H s Q E) s
theorem FnG.mono {P : Program} {w : World} {K : Frg} {mg : Str → Option Value} {base : Heap} {j k : Nat} {f : Addr} {fd : FuncData} {ps : List Str} {sp : SpD} (F : FnG P w K mg base j f fd ps sp) (h : j ≤ k) : FnG P w K mg base k f fd ps sp :=
  ⟨F.len, fun A o s H a us vs Q E g r => F.run A o s H a us vs Q E g (r.mono h)⟩
theorem toSp_len {sp : SpD} {n : Nat} (h : ∀ ds μ Q E, sp ds μ Q E → ds.length = n) {vs : List V} {H : Hp} {Q : VK} {E : XK} (q : toSp sp vs H Q E) : vs.length = n := by
  obtain ⟨ds, μ, QD, ED, hv, _, hs, _⟩ := q
  rw [← hv.length]
  exact h _ _ _ _ hs
/-- a result may be told with less: lists that change no more -/
def Wkn (μ : Mu) (d : D) (μ' : Mu) (d' : D) : Prop := ∀ H, MH μ H → (Step (MD μ) H (MD μ') H ∧ MH μ' H) ∧ ∀ v, VD (MD μ) H d v → VD (MD μ') H d' v
def wkR (Q : DQ) : DQ := fun d μ => ∃ d' μ', Wkn μ d μ' d' ∧ Q d' μ'
theorem Wkn.less {μ μ' : Mu} {d : D} (h : Less μ μ') : Wkn μ d μ' d := fun _ m => ⟨⟨h.step, h.mh m⟩, fun _ v => VD.step h.step _ _ v⟩
theorem Wkn.trans {μ μ1 μ2 : Mu} {d d1 d2 : D} (h : Wkn μ d μ1 d1) (g : Wkn μ1 d1 μ2 d2) : Wkn μ d μ2 d2 := fun H m =>
  have a := h H m
  have b := g H a.1.2
  ⟨⟨a.1.1.trans b.1.1, b.1.2⟩, fun v hv => b.2 v (a.2 v hv)⟩
theorem wkR.same {Q : DQ} {d : D} {μ : Mu} (h : Q d μ) : wkR Q d μ := ⟨d, μ, .less (.refl _), h⟩
theorem wkR.less {Q : DQ} {d : D} {μ μ' : Mu} (l : Less μ μ') (h : Q d μ') : wkR Q d μ := ⟨d, μ', .less l, h⟩
theorem wkR.wk {Q : DQ} {d d' : D} {μ μ' : Mu} (l : Wkn μ d μ' d') (h : wkR Q d' μ') : wkR Q d μ := let ⟨e, ν, w, q⟩ := h; ⟨e, ν, l.trans w, q⟩
/-- a list that changes no more -/
theorem Wkn.froze {μ μ' : Mu} {l : Addr} {ds : List D} (h : Less μ μ') (e : μ l = some (.lst ds)) (n : μ' l = none) : Wkn μ (.at l) μ' (.lst ds) := fun H m => ⟨⟨h.step, h.mh m⟩, fun v hv => by
  obtain ⟨xs, h1, h2⟩ := m l _ e
  exact ⟨l, xs, hv, ⟨fun ⟨o, q⟩ => (by rw [n] at q; cases q), h1⟩, VDs.step h.step _ _ h2⟩⟩
theorem wkR.froze {Q : DQ} {μ μ' : Mu} {l : Addr} {ds : List D} (h : Less μ μ') (e : μ l = some (.lst ds)) (n : μ' l = none) (q : Q (.lst ds) μ') : wkR Q (.at l) μ := ⟨_, _, .froze h e n, q⟩
/-- a list of two whole numbers is a pot from here -/
theorem Wkn.pot {μ : Mu} {d : D} {l : Addr} {x y : Int} (e : μ l = some (.lst [.int x, .int y])) (ok : PotOk x y) : Wkn μ d (put μ l .pot) d := fun H m => by
  have st : Step (MD μ) H (MD (put μ l .pot)) H := ⟨fun _ _ _ e => e, fun a ⟨z, q⟩ => by
    by_cases c : a = l
    · subst c
      exact .inl ⟨_, e⟩
    · rw [put_ne c] at q
      exact .inl ⟨_, q⟩⟩
  refine ⟨⟨st, fun a z q => ?_⟩, fun v hv => VD.step st _ _ hv⟩
  by_cases c : a = l
  · subst c
    rw [put_same] at q
    cases q
    obtain ⟨xs, h1, v, vs, rfl, rx, v2, vs2, rfl, ry, e0⟩ := m a _ e
    rw [show v = V.int x from rx, show v2 = V.int y from ry, show vs2 = [] from e0] at h1
    exact ⟨x, y, h1, ok⟩
  · rw [put_ne c] at q
    exact (m a z q).step st rfl

/-- the names at a def's entry -/
def startD (N : List Str) (ds : List D) : Rho := ds.map some ++ List.replicate (N.length - ds.length) none
theorem start_rs {M : Ms} {H : Hp} {N : List Str} {ds : List D} {vs : List V} (h : VDs M H ds vs) : RS (M, H) M H (startD N ds) (L2.start N vs) := by
  have hl := h.length
  refine ⟨by simp [startD, L2.start, hl], fun i d e => ?_, .refl⟩
  unfold startD at e
  unfold L2.start
  by_cases hi : i < ds.length
  · rw [List.getElem?_append_left (by simpa using hi), List.getElem?_map] at e
    rw [List.getElem?_append_left (by rw [List.length_map]; omega), List.getElem?_map]
    cases q : ds[i]? with
    | none => rw [q] at e; cases e
    | some x =>
      rw [q] at e
      cases e
      obtain ⟨v, h1, h2⟩ := h.get q
      exact ⟨v, by rw [h1]; rfl, h2⟩
  · rw [List.getElem?_append_right (by simpa using hi)] at e
    rw [List.getElem?_replicate] at e
    split at e <;> cases e

/-- THE RULE for a def of the text, over data -/
theorem fnD {P : Program} {w : World} {K : Frg} {mg : Str → Option Value} {base : Heap} {k : Nat} {f : Addr} {x qual : Str} {st : Stmt} {fd : FuncData} {N ps : List Str} {sp : SpD} (F : ∃ (oc : Value) (od : Option Addr) (dV kV doc pm : Value) (an : Option Addr) (cdv ct : Value) (osl : Array (Option Value)),
    fd = PySem.W.fnOf x qual (defArgs st) (defBody st) (defScope st) dV kV doc pm an cdv ct ∧ K.lookup f = some ⟨oc, od, .func fd, osl⟩ ∧ PySem.W.codeIn K cdv qual = true)
    (S : FnScope N ps (defScope st)) (len : ∀ ds μ Q E, sp ds μ Q E → ds.length = ps.length)
    (hbody : ∀ (cdv : Value) (A : Around) (outer : List Env) (s : Shared) (H : Hp) (EX : XK) (ds : List D) (μ : Mu) (Q : DQ) (E : XD), A.guards = some [] → Room k (A.deeper (envOfC qual (defScope st) s.heap.objs.size f cdv)) →
      Takes (cxOf (L2.CX P w) P w K mg base N qual (defScope st) f cdv A outer s H EX) (upX (MD μ, H) fun cls fs _ μ' => E cls fs μ') →
      PassesOwn (model P w) (A.deeper (envOfC qual (defScope st) s.heap.objs.size f cdv)) (envOfC qual (defScope st) s.heap.objs.size f cdv) (cxOf (L2.CX P w) P w K mg base N qual (defScope st) f cdv A outer s H EX).xe → sp ds μ Q E →
      ∃ b, JSs (MD μ, H) (cxOf (L2.CX P w) P w K mg base N qual (defScope st) f cdv A outer s H EX) (defBody st) b ∧ b { nx := fun _ μ' => wkR Q .non μ', rt := wkR Q } (startD N ds) μ) : FnG P w K mg base (k + 1) f fd ps sp := by
  obtain ⟨oc, od, dV, kV, doc, pm, an, cdv, ct, osl, rfl, lk, hcd⟩ := F
  refine ⟨len, fun A outer s H args us vs Q E hg hr e0 hb r hsp => ?_⟩
  have hl := toSp_len len hsp
  have KX : K.In s.heap := e0.mod.kin.keeps fun b o e => (e0.bs b o e).1
  have lim : s.heap.NoLimit := e0.mod.nolimit.keeps fun b o e => (e0.bs b o e).1
  have hkind : ∀ y ∈ ps.zip us, (defScope st).names.lookup y.1 = some .local ∨ ((defScope st).names.lookup y.1 = some .cell ∧ ((cellsFrom (s.heap.objs.size + 1) (defScope st).names []).lookup y.1).isSome = true) := by
    rintro ⟨n, v⟩ hy
    cases S.par n (List.of_mem_zip hy).1 with
    | inl q => exact .inl q
    | inr q => exact .inr ⟨q, PySem.W.cellsFrom_some _ _ _ (.inl q)⟩
  refine codeAny_call_function hr.depth (KX _ _ lk) rfl S.co S.gen rfl (PySem.W.codeRec_of KX hcd) (hb _ _ _ _ (wpAny_newFunctionEnv_cells S.kind hkind fun env he s1 x => ?_))
  subst he
  refine ⟨lim.keeps x.toInCall.keep, codeAny_func ?_⟩
  obtain ⟨ds, μ, QD, ED, hv, mh, hs, kQ, kE⟩ := hsp
  have tk : Takes (cxOf (L2.CX P w) P w K mg base N qual (defScope st) f cdv A outer s H E) (upX (MD μ, H) fun cls fs _ μ' => ED cls fs μ') :=
    Takes.imp (takes_of rfl rfl rfl rfl) fun c d σ H' ⟨fs, ρ, μ', h1, h2, h3, h4⟩ => kE c d H' ⟨fs, μ', h2.2.2, h3, h1, h4⟩
  obtain ⟨b, hb1, hb2⟩ := hbody cdv A outer s H E ds μ QD ED hg (hr.deeper _) tk (passes_of rfl) hs
  have I : Inv (cxOf (L2.CX P w) P w K mg base N qual (defScope st) f cdv A outer s H E) [] (L2.start N vs) H s1 := inv_start S hr.hd e0 hl r x
  have le : EdLe (MD μ, H) { nx := fun _ μ' => wkR QD .non μ', rt := wkR QD } { nx := fun _ H' => Q .non H', rt := Q } μ H :=
    ⟨fun σ' H' ρ' μ' st rs m ⟨d', μ2, wk, q⟩ => kQ _ _ ⟨d', μ2, st.trans (wk _ m).1.1, (wk _ m).1.2, (wk _ m).2 _ rfl, q⟩, fun v H' d μ' st m hd ⟨d', μ2, wk, q⟩ => kQ _ _ ⟨d', μ2, st.trans (wk _ m).1.1, (wk _ m).1.2, (wk _ m).2 _ hd, q⟩, fun _ _ _ _ _ _ _ q => q.elim, fun _ _ _ _ _ _ _ q => q.elim⟩
  refine wpAny_mono (hb1.run [] s1 (L2.start N vs) H { nx := fun _ H' => Q .non H', rt := Q } I ⟨startD N ds, μ, _, start_rs hv, mh, hb2, le⟩) (fun fl s' hs' => ?_) fun _ _ z => z
  have fin : ∀ {σ' : L2.St} {H' : Hp} {v : V} {u : Value}, Inv (cxOf (L2.CX P w) P w K mg base N qual (defScope st) f cdv A outer s H E) [] σ' H' s' → RelV v u → Q v H' → CE outer P w H s Q u s' := fun {σ' H' v u} J rv q => ⟨v, H', J.os, J.bare, J.base, J.hok, rv, q⟩
  cases fl with
  | ret u => obtain ⟨v, σ', H', J, rv, q⟩ := hs'; exact fin J rv q
  | next => obtain ⟨σ', H', J, q⟩ := hs'; exact fin (v := V.non) (u := Value.none) J rfl q
  | brk => obtain ⟨_, _, _, q⟩ := hs'; exact q.elim
  | cont => obtain ⟨_, _, _, q⟩ := hs'; exact q.elim

/-! ### calls -/
/-- how arguments come to parameters: n by place, ks by name -/
structure KBd (K : Frg) (fd : FuncData) (ps : List Str) (n : Nat) (ks : List Str) (gD : List D → List D → List D) : Prop where
  to : ∀ (s : Shared) (us ws : List Value), K.In s.heap → us.length = n → ws.length = ks.length → ∃ zs, BindsTo s fd ⟨us, ks.zip ws⟩ (ps.zip zs) ∧
    ∀ (M : Ms) (H : Hp) (ds es : List D) (vs ms : List V), VDs M H ds vs → VDs M H es ms → Vals vs us → Vals ms ws → ∃ xs, Vals xs zs ∧ VDs M H (gD ds es) xs
theorem KBd.pos {K : Frg} {fd : FuncData} {ps : List Str} (n : Nat) (h : ∀ us : List Value, us.length = n → bindArgs fd ⟨us, []⟩ = pure (ps.zip us)) : KBd K fd ps n [] (fun ds _ => ds) :=
  ⟨fun s us ws _ h1 h2 => ⟨us, by
    have e : ([] : List Str).zip ws = [] := rfl
    rw [e]
    exact .of_eq (h us h1), fun M H ds es vs ms a b c d => ⟨vs, c, a⟩⟩⟩
def picked {α : Type} (l : List α) (d : α) (idx : List Nat) : List α := idx.map fun i => l.getD i d
theorem VDs.picked {M : Ms} {H : Hp} {es : List D} {ms : List V} (h : VDs M H es ms) : ∀ idx : List Nat, VDs M H (picked es .non idx) (picked ms .non idx)
  | [] => rfl
  | i :: idx => by
    refine ⟨_, _, rfl, ?_, VDs.picked h idx⟩
    show VD M H (es.getD i .non) (ms.getD i .non)
    rw [List.getD_eq_getElem?_getD, List.getD_eq_getElem?_getD]
    cases q : es[i]? with
    | some d =>
      obtain ⟨v, e, r⟩ := h.get q
      rw [e]
      exact r
    | none =>
      have e : ms[i]? = none := by
        rw [List.getElem?_eq_none_iff] at *
        rw [← h.length]
        exact q
      rw [e]
      exact rfl
theorem Vals.picked {ms : List V} {ws : List Value} (h : Vals ms ws) : ∀ idx : List Nat, Vals (picked ms .non idx) (picked ws .none idx)
  | [] => .nil
  | i :: idx => by
    refine .cons ?_ (Vals.picked h idx)
    show RelV (ms.getD i .non) (ws.getD i .none)
    rw [List.getD_eq_getElem?_getD, List.getD_eq_getElem?_getD]
    cases q : ms[i]? with
    | some d =>
      obtain ⟨v, e, r⟩ := h.get q
      rw [e]
      exact r
    | none =>
      rw [h.none_of q]
      exact rfl
/-- the keywords in any order, all given -/
theorem KBd.kw {K : Frg} {fd : FuncData} {ps ks : List Str} (n : Nat) (idx : List Nat) (h : ∀ us ws : List Value, us.length = n → ws.length = ks.length → bindArgs fd ⟨us, ks.zip ws⟩ = pure (ps.zip (us ++ picked ws .none idx))) : KBd K fd ps n ks (fun ds es => ds ++ picked es .non idx) :=
  ⟨fun s us ws _ h1 h2 => ⟨_, .of_eq (h us ws h1 h2), fun M H ds es vs ms a b c d => ⟨_, c.append (Vals.picked d idx), a.append (VDs.picked b idx)⟩⟩⟩

abbrev WCl := Rho → Mu → (List D → List D → Mu → Prop) → Prop
/-- a call's written arguments, by place and by name (ks) -/
def JCl (B : Bs) (X : Cx) (es : List Expr) (kws : List Keyword) (ks : List Str) (t : WCl) : Prop :=
  ∀ (pos : Pos) (f : Value) (first : List Value) (pins : List (Addr × Obj)) (s : Shared) (σ : L2.St) (H : Hp) (ρ : Rho) (μ : Mu) (QD : List D → List D → Mu → Prop) (R : Value → Shared → Prop), PySem.W.keepIn X.K f = true → Inv X pins σ H s → RS B (MD μ) H ρ σ → MH μ H → t ρ μ QD →
    (∀ ds es μ1 H1 vs zs us ws s1, Step (MD μ) H (MD μ1) H1 → MH μ1 H1 → VDs (MD μ1) H1 ds vs → VDs (MD μ1) H1 es zs → Vals vs us → Vals zs ws → ws.length = ks.length → Inv X pins σ H1 s1 → QD ds es μ1 → wpAny (model X.prog X.w) X.A (call f (first ++ us) (ks.zip ws)) R X.xe s1) →
    wpAny (model X.prog X.w) X.A (callWith pos f first (backTo pos (starEach es X.env)) (backToKw pos (keywordEach kws X.env))) R X.xe s
def wCl0 : WCl := fun _ μ Q => Q [] [] μ
def wClP (a : WA) : WCl := fun ρ μ Q => a ρ μ fun ds μ1 => Q ds [] μ1
def wClK (k : WA) : WCl := fun ρ μ Q => k ρ μ fun es μ1 => Q [] es μ1
def wClPK (a k : WA) : WCl := fun ρ μ Q => a ρ μ fun ds μ1 => k ρ μ1 fun es μ2 => Q ds es μ2
def upAn (B : Bs) (w : WA) (n : Nat) : TA := fun σ H Q => ∃ ρ μ QD, RS B (MD μ) H ρ σ ∧ MH μ H ∧ w ρ μ QD ∧ ∀ vs H' ds μ', Step (MD μ) H (MD μ') H' → MH μ' H' → VDs (MD μ') H' ds vs → ds.length = n → QD ds μ' → Q vs H'
abbrev JK (B : Bs) (X : Cx) (kws : List Keyword) (w : WA) : Prop := PK X kws (upAn B w kws.length)
section
variable {X : Cx} {e : Expr} {es : List Expr} {kws : List Keyword} {ks : List Str} {a k : WA}
theorem PK.of {t t' : TA} (h : PK X kws t) (g : ∀ σ H Q, t' σ H Q → t σ H Q) : PK X kws t' := ⟨fun pos pins s σ H Q I q => h.run pos pins s σ H Q I (g σ H Q q)⟩
theorem jk_nil : JK B X [] wNil := PK.of pk_nil fun σ H Q ⟨ρ, μ, QD, _, m, h, k⟩ => k [] H [] μ .refl m rfl rfl h
theorem jk_cons {nm : Option Str} {kpos : Pos} {w : WE} (ha : JE B X e w) (hr : JK B X kws a) : JK B X (⟨nm, e, kpos⟩ :: kws) (wCons w a) := PK.of (pk_cons ha hr) fun σ H Q ⟨ρ, μ, QD, rs, m, h, k⟩ =>
  up_mk rs m h fun v H1 d μ1 s1 m1 v1 h1 => ⟨ρ, μ1, _, rs.step s1, m1, h1, fun vs H2 ds μ2 s2 m2 v2 l2 h2 => k _ _ (d :: ds) μ2 (s1.trans s2) m2 ⟨v, vs, rfl, VD.step s2 _ _ v1, v2⟩ (by rw [List.length_cons, List.length_cons, l2]) h2⟩
theorem jc_0 : JCl B X [] [] [] wCl0 := fun pos f first pins s σ H ρ μ QD R hk I rs m h q => PySem.W.callWith_K0 I.kIn hk (q [] [] μ H [] [] [] [] s .refl m rfl rfl .nil .nil rfl I h)
theorem jc_p (ha : JA B X (e :: es) a) (he : starEach (e :: es) X.env = (false, eval e X.env) :: starEach es X.env := by rfl) (hpl : ∀ pos, (backTo pos (starEach es X.env)).any (·.1) = false := by intro _; rfl) : JCl B X (e :: es) [] [] (wClP a) := fun pos f first pins s σ H ρ μ QD R hk I rs m h q =>
  PySem.W.callWith_K (h₀ := X.base) I.ok.mod.kin hk (thn (ha.run pos pins s σ H (fun vs H1 => ∃ ds μ1, Step (MD μ) H (MD μ1) H1 ∧ MH μ1 H1 ∧ VDs (MD μ1) H1 ds vs ∧ QD ds [] μ1) I ⟨ρ, μ, _, rs, m, h, fun vs H1 ds μ1 s1 m1 v1 h1 => ⟨ds, μ1, s1, m1, v1, h1⟩⟩) fun us s1 ⟨vs, H1, I1, r, ds, μ1, s2, m2, v2, q2⟩ =>
    ⟨I1.kIn, q ds [] μ1 H1 vs [] us [] s1 s2 m2 v2 rfl r .nil rfl I1 q2⟩) he (hpl pos)
theorem jc_k (hkw : JK B X kws k) (hall : ∀ pos, (backToKw pos (keywordEach kws X.env)).all (·.1.isSome) = true := by intro _; rfl) (hks : ∀ pos, (backToKw pos (keywordEach kws X.env)).filterMap (·.1) = ks := by intro _; rfl)
    (hpl : ∀ pos, ((backTo pos (starEach [] X.env)).any (·.1) || (backToKw pos (keywordEach kws X.env)).any (·.1.isNone)) = false := by intro _; rfl) (hl : kws.length = ks.length := by rfl) : JCl B X [] kws ks (wClK k) := fun pos f first pins s σ H ρ μ QD R hk I rs m h q =>
  PySem.W.callWith_KW0 (h₀ := X.base) I.ok.mod.kin hk (hall pos) (thn (hkw.run pos pins s σ H (fun vs H1 => ∃ ds μ1, Step (MD μ) H (MD μ1) H1 ∧ MH μ1 H1 ∧ VDs (MD μ1) H1 ds vs ∧ ds.length = kws.length ∧ QD [] ds μ1) I ⟨ρ, μ, _, rs, m, h, fun vs H1 ds μ1 s1 m1 v1 l1 h1 => ⟨ds, μ1, s1, m1, v1, l1, h1⟩⟩) fun us s1 ⟨vs, H1, I1, r, ds, μ1, s2, m2, v2, l2, q2⟩ => by
    refine ⟨I1.kIn, ?_⟩
    rw [hks pos]
    exact q [] ds μ1 H1 [] vs [] us s1 s2 m2 rfl v2 .nil r (by rw [← r.length, ← v2.length, l2, hl]) I1 q2) (hpl pos)
theorem jc_pk (ha : JA B X (e :: es) a) (hkw : JK B X kws k) (hall : ∀ pos, (backToKw pos (keywordEach kws X.env)).all (·.1.isSome) = true := by intro _; rfl) (hks : ∀ pos, (backToKw pos (keywordEach kws X.env)).filterMap (·.1) = ks := by intro _; rfl)
    (he : starEach (e :: es) X.env = (false, eval e X.env) :: starEach es X.env := by rfl) (hpl : ∀ pos, ((backTo pos (starEach (e :: es) X.env)).any (·.1) || (backToKw pos (keywordEach kws X.env)).any (·.1.isNone)) = false := by intro _; rfl) (hl : kws.length = ks.length := by rfl) : JCl B X (e :: es) kws ks (wClPK a k) := fun pos f first pins s σ H ρ μ QD R hk I rs m h q =>
  PySem.W.callWith_KW (h₀ := X.base) I.ok.mod.kin hk (hall pos) (thn (ha.run pos pins s σ H (fun vs H1 => ∃ ds μ1, Step (MD μ) H (MD μ1) H1 ∧ MH μ1 H1 ∧ VDs (MD μ1) H1 ds vs ∧ k ρ μ1 fun es μ2 => QD ds es μ2) I ⟨ρ, μ, _, rs, m, h, fun vs H1 ds μ1 s1 m1 v1 h1 => ⟨ds, μ1, s1, m1, v1, h1⟩⟩) fun us s1 ⟨vs, H1, I1, r, ds, μ1, s2, m2, v2, q2⟩ =>
    thn (hkw.run pos pins s1 σ H1 (fun zs H2 => ∃ es μ2, Step (MD μ1) H1 (MD μ2) H2 ∧ MH μ2 H2 ∧ VDs (MD μ2) H2 es zs ∧ es.length = kws.length ∧ QD ds es μ2) I1 ⟨ρ, μ1, _, rs.step s2, m2, q2, fun vs H1 ds μ1 s1 m1 v1 l1 h1 => ⟨ds, μ1, s1, m1, v1, l1, h1⟩⟩) fun ws s3 ⟨zs, H3, I3, r3, es', μ3, s4, m4, v4, l4, q4⟩ => by
      refine ⟨I3.kIn, ?_⟩
      rw [hks pos]
      exact q ds es' μ3 H3 vs zs us ws s3 (s2.trans s4) m4 (VDs.step s4 _ _ v2) v4 r r3 (by rw [← r3.length, ← v4.length, l4, hl]) I3 q4) (hpl pos) he
end

section
variable {X : Cx} {k : Nat} {f C : Addr} {fd : FuncData} {ps ks : List Str} {n : Nat} {sp : SpD} {gD : List D → List D → List D} {W : WXD} {x m : Str} {p pos apos : Pos} {o : Expr} {es : List Expr} {kws : List Keyword} {t : WCl} {wo : WE}
/-- the callee runs -/
theorem run_D {pins : List (Addr × Obj)} {σ : L2.St} {H : Hp} {s : Shared} {ρ : Rho} {μ : Mu} {Q : DQ} {us ws : List Value} {vs zs : List V} {ds es : List D} {R : VK} (F : FnG X.prog X.w X.K X.mg X.base k f fd ps sp) (hr : Room k X.A) (hg : X.A.guards = some []) (hb : KBd X.K fd ps n ks gD) (tk : Takes X (upX B W))
    (I : Inv X pins σ H s) (rs : RS B (MD μ) H ρ σ) (mh : MH μ H) (v1 : VDs (MD μ) H ds vs) (v2 : VDs (MD μ) H es zs) (r1 : Vals vs us) (r2 : Vals zs ws) (l1 : us.length = n) (l2 : ws.length = ks.length)
    (h : sp (gD ds es) μ Q fun cls fs μ' => W cls fs ρ μ') (hR : ∀ v H', lft μ H Q v H' → R v H') : wpAny (model X.prog X.w) X.A (call (.ref f) us (ks.zip ws)) (EP X pins σ R) X.xe s := by
  obtain ⟨qs, hbd, hrel⟩ := hb.to s us ws I.kIn l1 l2
  obtain ⟨xs, rx, vx⟩ := hrel _ _ ds es vs zs v1 v2 r1 r2
  refine wpAny_call (codeAny_mono (F.run X.A X.stack s H ⟨us, ks.zip ws⟩ qs xs R (fun cls d H' => upX B W cls d σ H') hg hr I.env0 hbd rx ⟨_, μ, Q, _, vx, mh, h, hR, fun cls d H' ⟨fs, μ', s1, m1, f1, w1⟩ => ⟨fs, ρ, μ', f1, rs.step s1, m1, w1⟩⟩) fun r s' hq => ?_)
  cases r with
  | error e => exact tk e s' (XE.of_call I (fun cls d H' z => z) hq)
  | ok fl =>
    cases fl with
    | ret u => exact I.after hq
    | next => exact hq.elim
    | brk => exact hq.elim
    | cont => exact hq.elim
def wCall (n : Nat) (sp : SpD) (gD : List D → List D → List D) (W : WXD) (t : WCl) : WE := fun ρ μ Q => t ρ μ fun ds es μ1 => ds.length = n ∧ sp (gD ds es) μ1 Q fun cls fs μ' => W cls fs ρ μ'
theorem je_call (F : FnG X.prog X.w X.K X.mg X.base k f fd ps sp) (hr : Room k X.A) (hg : X.A.guards = some []) (tk : Takes X (upX B W)) (hm : X.mg x = some (.ref f)) (hk : PySem.W.keepIn X.K (.ref f) = true) (hb : KBd X.K fd ps n ks gD) (ha : JCl B X es kws ks t)
    (hgl : Gl X x := by rfl) (hdb : (x == ("__debug__" : Str)) = false := by decide) : JE B X (.Call (.Name x p) es kws pos) (wCall n sp gD W t) := ⟨fun pins s σ H Q I ⟨ρ, μ, QD, rs, mh, h, kk⟩ => by
  refine wpAny_Call_Name_kw (ld_glob I hgl hm ?_ hdb)
  refine ha pos _ [] pins s σ H ρ μ _ _ hk I rs mh h fun ds es μ1 H1 vs zs us ws s1 st m1 v1 v2 r1 r2 l2 I1 q => ?_
  exact run_D F hr hg hb tk I1 (rs.step st) m1 v1 v2 r1 r2 (show us.length = n by rw [← r1.length, ← v1.length]; exact q.1) l2 q.2 fun v H' z => kk v H' (z.trans st)⟩
/-- o.m(..), o an instance of the class at C -/
def wMeth (C : Addr) (m : Str) (n : Nat) (sp : SpD) (gD : List D → List D → List D) (W : WXD) (wo : WE) (t : WCl) : WE := fun ρ μ Q => wo ρ μ fun d μ0 => ∃ a fs, d = .at a ∧ μ0 a = some (.ins C fs) ∧ fs.lookup m = none ∧ t ρ μ0 fun ds es μ1 => ds.length + 1 = n ∧ sp (gD (.at a :: ds) es) μ1 Q fun cls fs μ' => W cls fs ρ μ'
theorem KD.lookup {M : Ms} {H : Hp} {m : Str} : ∀ {fs : List (Str × D)} {gs : List (Str × V)}, KD M H fs gs → (match fs.lookup m with | none => gs.lookup m = none | some d => ∃ v, gs.lookup m = some v ∧ VD M H d v)
  | _, _, .nil => rfl
  | (a, d) :: fs, (b, v) :: gs, .cons r t => by
    obtain ⟨e, hv⟩ := r
    have e' : a = b := e
    subst e'
    rw [List.lookup_cons, List.lookup_cons]
    cases q : (m == a) with
    | true => exact ⟨v, rfl, hv⟩
    | false => exact KD.lookup t
theorem KD.lookup_none {M : Ms} {H : Hp} {m : Str} {fs : List (Str × D)} {gs : List (Str × V)} (h : KD M H fs gs) (e : fs.lookup m = none) : gs.lookup m = none := by
  have q := KD.lookup (m := m) h
  rw [e] at q
  exact q
theorem KD.lookup_some {M : Ms} {H : Hp} {m : Str} {fs : List (Str × D)} {gs : List (Str × V)} {d : D} (h : KD M H fs gs) (e : fs.lookup m = some d) : ∃ v, gs.lookup m = some v ∧ VD M H d v := by
  have q := KD.lookup (m := m) h
  rw [e] at q
  exact q
theorem je_meth {pl : Sem Bool} (ho : JE B X o wo) (c : Cls X.K C) (hm : Meth X.K C m f) (F : FnG X.prog X.w X.K X.mg X.base k f fd ps sp) (hr : Room k X.A) (hg : X.A.guards = some []) (tk : Takes X (upX B W)) (hb : KBd X.K fd ps n ks gD) (ha : JCl B X es kws ks t)
    (ht : eval (.Call (.Attribute o m apos) es kws pos) X.env = (do
      let ov ← eval o X.env
      standAt apos.atName
      let (f, first) ← holding [ov] (getMethod ov m pl)
      callWith pos f first (backTo pos (starEach es X.env)) (backToKw pos (keywordEach kws X.env))) := by rfl) : JE B X (.Call (.Attribute o m apos) es kws pos) (wMeth C m n sp gD W wo t) := ⟨fun pins s σ H Q I ⟨ρ, μ, QD, rs, mh, h, kk⟩ => by
  have h1 := ho.run pins s σ H (fun v H1 => ∃ d μ1, Step (MD μ) H (MD μ1) H1 ∧ MH μ1 H1 ∧ VD (MD μ1) H1 d v ∧ ∃ a fs, d = .at a ∧ μ1 a = some (.ins C fs) ∧ fs.lookup m = none ∧ t ρ μ1 fun ds es μ2 => ds.length + 1 = n ∧ sp (gD (.at a :: ds) es) μ2 QD fun cls fs μ' => W cls fs ρ μ') I
    (up_mk rs mh h fun v H' d μ' a b c e => ⟨d, μ', a, b, c, e⟩)
  refine PySem.W.methodCall_KW (pl := pl) (thn h1 fun u s1 ⟨v, H1, I1, rv, d, μ1, st1, m1, v1, a, fs, ed, ea, el, q⟩ => ?_) ht
  subst ed
  rw [show v = V.ref a from v1] at rv
  obtain rfl : u = Value.ref a := rv
  obtain ⟨dx, gs, e1, kd⟩ := m1 a _ ea
  refine getmeth_ok I1 e1 c hm (KD.lookup_none kd el) ?_
  refine ha pos _ [.ref a] pins s1 σ H1 ρ μ1 _ _ hm.kp I1 (rs.step st1) m1 q fun ds es μ2 H2 vs zs us ws s2 st m2 v1 v2 r1 r2 l2 I2 q => ?_
  exact run_D (us := .ref a :: us) (vs := .ref a :: vs) (ds := .at a :: ds) F hr hg hb tk I2 ((rs.step st1).step st) m2 ⟨_, _, rfl, rfl, v1⟩ v2 (.cons rfl r1) r2 (by rw [List.length_cons, ← r1.length, ← v1.length]; exact q.1) l2 q.2 fun v H' z => kk v H' (z.trans (st1.trans st))⟩
/-- C(..): a new instance, then __init__ -/
def wMake (C : Addr) (n : Nat) (sp : SpD) (gD : List D → List D → List D) (W : WXD) (t : WCl) : WE := fun ρ μ Q => t ρ μ fun ds es μ1 => ds.length + 1 = n ∧ ∀ a, μ1 a = none → sp (gD (.at a :: ds) es) (put μ1 a (.ins C [])) (fun d μ2 => d = .non ∧ Q (.at a) μ2) fun cls fs μ' => W cls fs ρ μ'
theorem make_guards {A : Around} {C : Addr} {us : List Value} {kw : List (Str × Value)} : (A.under (.builtin "type.__call__" ⟨.ref C :: us, kw⟩)).guards = A.guards := by
  cases h : A.guards with
  | none => simp [Around.under, h, pushGuards, Code.guards, Code.isGuard, guardIds]
  | some l => simp [Around.under, h, pushGuards, Code.guards, Code.isGuard, guardIds]
theorem je_make (M : Mk X.K C f) (F : FnG X.prog X.w X.K X.mg X.base k f fd ps sp) (hr : Room (k + 1) X.A) (hg : X.A.guards = some []) (tk : Takes X (upX B W)) (hm : X.mg x = some (.ref C)) (hb : KBd X.K fd ps n ks gD) (ha : JCl B X es kws ks t)
    (hgl : Gl X x := by rfl) (hdb : (x == ("__debug__" : Str)) = false := by decide) : JE B X (.Call (.Name x p) es kws pos) (wMake C n sp gD W t) := ⟨fun pins s σ H Q I ⟨ρ, μ, QD, rs, mh, h, kk⟩ => by
  refine wpAny_Call_Name_kw (ld_glob I hgl hm ?_ hdb)
  refine ha pos _ [] pins s σ H ρ μ _ _ M.kp I rs mh h fun ds es μ1 H1 vs zs us ws s1 st m1 v1 v2 r1 r2 l2 I1 q => ?_
  show wpAny _ _ (call (.ref C) us (ks.zip ws)) _ _ _
  have f1 : H1 s1.heap.objs.size = none := I1.hok.fresh (Nat.le_refl _)
  have f2 : H1 (s1.heap.objs.size + 1) = none := I1.hok.fresh (Nat.le_succ _)
  have I2 := Inv.made (C := C) I1
  have stA : Step (MD μ1) H1 (MD μ1) (upd H1 s1.heap.objs.size (.own (s1.heap.objs.size + 1))) := .new f1
  have mA := m1.newF (o := .own (s1.heap.objs.size + 1)) f1
  have f3 : (upd H1 s1.heap.objs.size (.own (s1.heap.objs.size + 1))) (s1.heap.objs.size + 1) = none := by
    rw [upd_ne (Nat.ne_of_gt (Nat.lt_succ_self _))]
    exact f2
  have stB : Step (MD μ1) (upd H1 s1.heap.objs.size (.own (s1.heap.objs.size + 1))) (MD (put μ1 (s1.heap.objs.size + 1) (.ins C []))) (upd (upd H1 s1.heap.objs.size (.own (s1.heap.objs.size + 1))) (s1.heap.objs.size + 1) (.ins C s1.heap.objs.size [])) := .newM f3
  have stC := stA.trans stB
  have mB : MH (put μ1 (s1.heap.objs.size + 1) (.ins C [])) (upd (upd H1 s1.heap.objs.size (.own (s1.heap.objs.size + 1))) (s1.heap.objs.size + 1) (.ins C s1.heap.objs.size [])) := mA.newM f3 ⟨_, _, upd_same, .nil⟩
  have hq := q.2 (s1.heap.objs.size + 1) (m1.free f2)
  have n1 : (Value.ref (s1.heap.objs.size + 1) :: us).length = n := by
    rw [List.length_cons, ← r1.length, ← v1.length]
    exact q.1
  obtain ⟨qs, hbd, hrel⟩ := hb.to _ (Value.ref (s1.heap.objs.size + 1) :: us) ws I2.kIn n1 l2
  obtain ⟨xs, rx, vx⟩ := hrel (MD (put μ1 (s1.heap.objs.size + 1) (.ins C []))) _ (.at (s1.heap.objs.size + 1) :: ds) es (V.ref (s1.heap.objs.size + 1) :: vs) zs ⟨_, _, rfl, rfl, VDs.step stC _ _ v1⟩ (VDs.step stC _ _ v2) (.cons rfl r1) r2
  have I3 : Env0 X.prog X.w X.K X.mg X.base (X.A.under (.builtin "type.__call__" ⟨.ref C :: us, ks.zip ws⟩)) X.stack _ _ := I2.env0.make C us (ks.zip ws)
  refine wpAny_call (make_map (f := f) I1.kIn M.makes M.init (beq_iff_eq.mp M.fn) (codeAny_mono (F.run _ X.stack _ _ ⟨Value.ref (s1.heap.objs.size + 1) :: us, ks.zip ws⟩ qs xs (fun v H2 => v = .non ∧ Q (.ref (s1.heap.objs.size + 1)) H2) (fun cls d H' => upX B W cls d σ H') (make_guards.trans hg) (hr.make C us (ks.zip ws)) I3 hbd rx
    ⟨_, _, _, _, vx, mB, hq, ?_, fun cls d H' ⟨fs, μ', s2, m2, f2, w2⟩ => ⟨fs, ρ, μ', f2, ((rs.step st).step stC).step s2, m2, w2⟩⟩) fun r s' hq' => ?_))
  · rintro v H' ⟨d, μ', s2, m2, v2, rfl, q2⟩
    exact ⟨v2, kk _ _ ⟨.at (s1.heap.objs.size + 1), μ', (st.trans stC).trans s2, m2, rfl, q2⟩⟩
  · cases r with
    | error e => exact tk e s' (XE.of_call I2 (fun cls d H' z => z) hq')
    | ok fl =>
      cases fl with
      | ret u =>
        obtain ⟨v, H', I4, rv, ev, q3⟩ := I2.after hq'
        subst ev
        exact ⟨rv, ⟨V.ref (s1.heap.objs.size + 1), H', I4, rfl, q3⟩⟩
      | next => exact hq'.elim
      | brk => exact hq'.elim
      | cont => exact hq'.elim⟩
end
end Dl

namespace Dl
open PySem PySem.Spec PyProof.Rows L2
variable {B : Bs}
/-! ### comprehensions -/
def wipeD (ρ : Rho) : List Nat → Rho
  | [] => ρ
  | v :: vs => (wipeD ρ vs).set v none
theorem wipe_get (σ : L2.St) : ∀ (vs : List Nat) (i : Nat), (wipe σ vs)[i]? = if i ∈ vs then (σ[i]?).map (fun _ => none) else σ[i]?
  | [], i => by rw [if_neg (by simp)]; rfl
  | v :: vs, i => by
    show ((wipe σ vs).set v none)[i]? = _
    by_cases e : i = v
    · subst e
      rw [if_pos List.mem_cons_self]
      by_cases hl : i < σ.length
      · rw [List.getElem?_set_self (by rw [wipe_length]; exact hl), List.getElem?_eq_getElem hl]
        rfl
      · rw [List.getElem?_eq_none (by rw [List.length_set, wipe_length]; omega), List.getElem?_eq_none (by omega)]
        rfl
    · rw [List.getElem?_set_ne (Ne.symm e), wipe_get σ vs i]
      have q : (i ∈ v :: vs) ↔ i ∈ vs := by simp [e]
      simp only [q]
theorem wipeD_length (ρ : Rho) : ∀ vs : List Nat, (wipeD ρ vs).length = ρ.length
  | [] => rfl
  | v :: vs => by
    show ((wipeD ρ vs).set v none).length = _
    rw [List.length_set, wipeD_length ρ vs]
theorem wipeD_get (ρ : Rho) : ∀ (vs : List Nat) (i : Nat) (d : D), (wipeD ρ vs)[i]? = some (some d) → i ∉ vs ∧ ρ[i]? = some (some d)
  | [], i, d, h => ⟨by simp, h⟩
  | v :: vs, i, d, h => by
    have h' : ((wipeD ρ vs).set v none)[i]? = some (some d) := h
    by_cases e : i = v
    · subst e
      by_cases hl : i < (wipeD ρ vs).length
      · rw [List.getElem?_set_self hl] at h'
        cases h'
      · rw [List.getElem?_eq_none (by rw [List.length_set]; omega)] at h'
        cases h'
    · rw [List.getElem?_set_ne (Ne.symm e)] at h'
      obtain ⟨a, b⟩ := wipeD_get ρ vs i d h'
      exact ⟨by simp [e, a], b⟩
theorem RS.wipe {M : Ms} {H : Hp} {ρ : Rho} {σ : L2.St} (vs : List Nat) (r : RS B M H ρ σ) : RS B M H (wipeD ρ vs) (wipe σ vs) := by
  refine ⟨by rw [wipeD_length, wipe_length]; exact r.1, fun i d e => ?_, r.2.2⟩
  obtain ⟨n, e1⟩ := wipeD_get ρ vs i d e
  obtain ⟨v, e2, h⟩ := r.2.1 i d e1
  exact ⟨v, by rw [wipe_get, if_neg n]; exact e2, h⟩
theorem wipe_wipe (σ : L2.St) (vs : List Nat) : wipe (wipe σ vs) vs = wipe σ vs := by
  refine List.ext_getElem? fun i => ?_
  rw [wipe_get, wipe_get]
  by_cases h : i ∈ vs
  · rw [if_pos h, if_pos h]
    cases σ[i]? <;> rfl
  · rw [if_neg h, if_neg h]
theorem wipe_set (σ : L2.St) {vs : List Nat} {i : Nat} (h : i ∈ vs) (x : Option V) : wipe (σ.set i x) vs = wipe σ vs := by
  refine List.ext_getElem? fun j => ?_
  rw [wipe_get, wipe_get]
  by_cases e : j = i
  · subst e
    rw [if_pos h, if_pos h]
    by_cases hl : j < σ.length
    · rw [List.getElem?_set_self hl, List.getElem?_eq_getElem hl]
      rfl
    · rw [List.getElem?_eq_none (by rw [List.length_set]; omega), List.getElem?_eq_none (by omega)]
  · rw [List.getElem?_set_ne (Ne.symm e)]
/-- a target of a comprehension: names among vs alone -/
def CT (B : Bs) (g : TG) (w : WG) (vs : List Nat) : Prop := ∀ v d σ H ρ μ QD, VD (MD μ) H d v → RS B (MD μ) H ρ σ → w d ρ μ QD → ∀ Q : L2.St → Hp → Prop, (∀ σ2 ρ2, wipe σ2 vs = wipe σ vs → RS B (MD μ) H ρ2 σ2 → QD ρ2 μ → Q σ2 H) → g v σ H Q
def CTs (B : Bs) (g : TGs) (w : WGs) (vs : List Nat) : Prop := ∀ xs ds σ H ρ μ QD, VDs (MD μ) H ds xs → RS B (MD μ) H ρ σ → w ds ρ μ QD → ∀ Q : L2.St → Hp → Prop, (∀ σ2 ρ2, wipe σ2 vs = wipe σ vs → RS B (MD μ) H ρ2 σ2 → QD ρ2 μ → Q σ2 H) → g xs σ H Q
theorem ct_name {vs : List Nat} (i : Nat) (h : i ∈ vs := by decide) : CT B (gName i) (wgName i) vs := fun v d σ H ρ μ QD vd rs q Q k => k _ _ (wipe_set σ h _) (rs.set i vd) q
theorem cts_nil {vs : List Nat} : CTs B gNil wgNil vs := fun xs ds σ H ρ μ QD vd rs q Q k => by
  obtain ⟨e, q⟩ := q
  subst e
  exact ⟨vd, k σ ρ rfl rs q⟩
theorem cts_cons {vs : List Nat} {g : TG} {w : WG} {gs : TGs} {ws : WGs} (h1 : CT B g w vs) (h2 : CTs B gs ws vs) : CTs B (gCons g gs) (wgCons w ws) vs := fun xs ds σ H ρ μ QD vd rs q Q k => by
  obtain ⟨d, es, e, q⟩ := q
  subst e
  obtain ⟨v, us, rfl, v1, v2⟩ := vd
  exact ⟨v, us, rfl, h1 v d σ H ρ μ _ v1 rs q _ fun σ2 ρ2 e2 r2 q2 => h2 us es σ2 H ρ2 μ QD v2 r2 q2 Q fun σ3 ρ3 e3 r3 q3 => k σ3 ρ3 (e3.trans e2) r3 q3⟩
theorem ct_tup {K : Frg} {vs : List Nat} {gs : TGs} {ws : WGs} (n : Nat) (h : CTs B gs ws vs) : CT B (gTup K n gs) (wgTup n ws) vs := fun v d σ H ρ μ QD vd rs q Q k => by
  unfold wgTup at q
  split at q
  · rename_i ds
    obtain ⟨a, xs, ev, f, g⟩ := vd
    exact ⟨a, xs, ev, SqT.of f.2, by rw [← g.length]; exact q.1, h xs ds σ H ρ μ QD g rs q.2 Q k⟩
  · exact q.elim

/-- tests of a clause -/
abbrev JTs (B : Bs) (X : Cx) (es : List Expr) (w : WT) : Prop := PTs X es (upT B w)
def wYes : WT := fun _ μ Q => Q true μ
theorem PTs.of {X : Cx} {es : List Expr} {t t' : TT} (h : PTs X es t) (g : ∀ σ H Q, t' σ H Q → t σ H Q) : PTs X es t' := ⟨fun pins s σ H Q I q => h.run pins s σ H Q I (g σ H Q q)⟩
theorem jts_nil {X : Cx} : JTs B X [] wYes := PTs.of pts_nil fun σ H Q ⟨ρ, μ, QD, rs, m, h, k⟩ => k true H μ .refl m h
theorem jts_one {X : Cx} {c : Expr} {t : WT} (h : JT B X c t) : JTs B X [c] t := pts_one h

/-- [elt for target in iter if ..]; L is the new list while it grows -/
def wLc (wi : WI) (g : WG) (t : WT) (a : WE) (vs : List Nat) : WE := fun ρ μ Q => wi ρ μ fun ds kp μ1 => ds.length ≤ 1000000 ∧ ∀ L, μ1 L = none → ∃ P : Nat → Mu → Prop, P 0 (put μ1 L (.lst [])) ∧ (∀ i μ, i ≤ ds.length → P i μ → kp μ) ∧
  (∀ i d μ, ds[i]? = some d → P i μ → g d (wipeD ρ vs) μ fun ρ2 μ2 => t ρ2 μ2 fun b μ3 => Br b (a ρ2 μ3 fun e μ4 => ∃ acc, μ4 L = some (.lst acc) ∧ acc.length ≤ i ∧ P (i + 1) (put μ4 L (.lst (acc ++ [e])))) (P (i + 1) μ3)) ∧
  ∀ μ, P ds.length μ → wkR Q (.at L) μ
theorem up_lc {X : Cx} {wi : WI} {g : TG} {w : WG} {t : WT} {a : WE} {vs : List Nat} (ct : CT B g w vs) {σ : L2.St} {H : Hp} {Q : VK} (h : up B (wLc wi w t a vs) σ H Q) : tLc (upI B wi) g (upT B t) (up B a) vs σ H Q := by
  obtain ⟨ρ, μ, QD, rs, m, h, k⟩ := h
  refine ⟨ρ, μ, _, rs, m, h, fun J H1 ds kp μ1 s1 m1 gv ⟨sz, h1⟩ L hL => ?_⟩
  obtain ⟨P, p0, pk, ps, pd⟩ := h1 L (m1.free hL)
  have st0 : Step (MD μ1) H1 (MD (put μ1 L (.lst []))) (upd H1 L (.lst [])) := .newM hL
  have m0 : MH (put μ1 L (.lst [])) (upd H1 L (.lst [])) := m1.newM hL ⟨[], upd_same, rfl⟩
  refine lc_it gv (fun i H2 => ∃ μ, Step (MD μ1) H1 (MD μ) H2 ∧ MH μ H2 ∧ P i μ) ⟨_, st0, m0, p0⟩ (fun i H2 hi ⟨μ2, st, mh, p⟩ => ⟨μ2, st, mh, pk i μ2 hi p⟩) ?_ ?_
  · rintro i x H2 H3 hi ⟨μ2, st, mh, p⟩ y
    obtain ⟨d, hd, st2, mh2, vd⟩ := y μ2 st mh (pk i μ2 (Nat.le_of_lt hi) p)
    have st3 := st.trans st2
    have r2 := ((rs.step s1).step st3).wipe vs
    refine ct x d _ H3 _ μ2 _ vd r2 (ps i d μ2 hd p) _ fun σ4 ρ4 e4 r4 q4 => ⟨e4.trans (wipe_wipe σ vs), ?_⟩
    refine upT_mk r4 mh2 q4 fun b H5 μ5 s5 m5 q5 => (q5.mono (fun q => ?_) fun q => ?_).ite
    · refine up_mk (r4.step s5) m5 q fun v H6 e μ6 s6 m6 v6 ⟨acc, h6, l6, p6⟩ => ?_
      obtain ⟨xs, e6, g6⟩ := m6 L _ h6
      have st7 : Step (MD μ6) H6 (MD (put μ6 L (.lst (acc ++ [e])))) (upd H6 L (.lst (xs ++ [v]))) := .write ⟨_, h6⟩
      refine ⟨xs, e6, ?_, _, ((st3.trans s5).trans s6).trans st7, m6.write ⟨_, h6⟩ ⟨_, upd_same, VDs.append (VDs.step st7 _ _ g6) ⟨v, [], rfl, VD.step st7 _ _ v6, rfl⟩⟩, p6⟩
      rw [← g6.length, sizeLine_eq]
      omega
    · exact ⟨μ5, st3.trans s5, m5, q⟩
  · rintro H2 ⟨μ2, st, mh, p⟩
    obtain ⟨d', μ3, wk, q⟩ := pd μ2 p
    exact k _ _ ⟨d', μ3, (s1.trans st).trans (wk _ mh).1.1, (wk _ mh).1.2, (wk _ mh).2 _ rfl, q⟩
section
variable {X : Cx} {elt tg iter : Expr} {ifs : List Expr} {scope : Scope} {own : List (Str × Nat)} {pos : Pos} {wi : WI} {g : TG} {w : WG} {t : WT} {a : WE}
theorem je_lc (hN : X.N.Nodup) (hi : JI B X tg iter wi) (ok : BlkOk X.N X.env.scope scope own) (ct : CT B g w (own.map (·.2))) (hg : ∀ (s : Shared) (H : Hp) (C : Addr) (cl : List (Str × Addr)) (fp : List Addr), PG (X.blk s H scope (compEnvC scope cl C X.env) fp) tg g)
    (ht : ∀ (s : Shared) (H : Hp) (C : Addr) (cl : List (Str × Addr)) (fp : List Addr), JTs B (X.blk s H scope (compEnvC scope cl C X.env) fp) ifs t) (he : ∀ (s : Shared) (H : Hp) (C : Addr) (cl : List (Str × Addr)) (fp : List Addr), JE B (X.blk s H scope (compEnvC scope cl C X.env) fp) elt a)
    (hc : X.calm = true := by rfl) (hs : ∀ x, foldedSetIterable iter X.env x = pure x := by intro _; rfl) : JE B X (.ListComp elt [⟨tg, iter, ifs, 0⟩] scope pos) (wLc wi w t a (own.map (·.2))) :=
  PE.of (pe_lc hc hN hi ok hg ht he hs) fun σ H Q h => up_lc (X := X) ct h
/-- name = [..] -/
theorem js_setLc (i : Nat) {y : Str} {py spos : Pos} (hN : X.N.Nodup) (hi : JI B X tg iter wi) (ok : BlkOk X.N X.env.scope scope own) (ct : CT B g w (own.map (·.2))) (hg : ∀ (s : Shared) (H : Hp) (C : Addr) (cl : List (Str × Addr)) (fp : List Addr), PG (X.blk s H scope (compEnvC scope cl C X.env) fp) tg g)
    (ht : ∀ (s : Shared) (H : Hp) (C : Addr) (cl : List (Str × Addr)) (fp : List Addr), JTs B (X.blk s H scope (compEnvC scope cl C X.env) fp) ifs t) (he : ∀ (s : Shared) (H : Hp) (C : Addr) (cl : List (Str × Addr)) (fp : List Addr), JE B (X.blk s H scope (compEnvC scope cl C X.env) fp) elt a)
    (hsw : swapsWith (.ListComp elt [⟨tg, iter, ifs, 0⟩] scope pos) (some (.Name y py)) spos.line X.env = pure true) (hc : X.calm = true := by rfl) (hy : X.N[i]? = some y := by rfl) (hyl : X.env.scope.names.lookup y = some .local := by rfl) (hs : ∀ x, foldedSetIterable iter X.env x = pure x := by intro _; rfl) :
    JS B X (.Assign [.Name y py] (.ListComp elt [⟨tg, iter, ifs, 0⟩] scope pos) spos) (wSet i (wLc wi w t a (own.map (·.2)))) :=
  PS.of (ps_setLc hc hN hy hyl hsw hi ok hg ht he hs) fun E σ H ⟨ρ, μ, DD, rs, m, h, l⟩ => up_lc (X := X) ct (up_mk rs m h fun v H' d μ' s m' r q => l.nx _ H' _ μ' s ((rs.step s).set i r) m' q)
end
/-- a comprehension whose turns leave all as it stands: R of the turns and the items made -/
def lcP (R : Nat → List D → Prop) (μ1 : Mu) (L : Addr) (i : Nat) (μ : Mu) : Prop := ∃ acc, μ = put μ1 L (.lst acc) ∧ acc.length ≤ i ∧ R i acc
theorem lc_by {g : WG} {t : WT} {a : WE} {vs : List Nat} {ρ : Rho} {Q : DQ} {ds : List D} {kp : Mu → Prop} {μ1 : Mu} (R : Nat → List D → Prop) (sz : ds.length ≤ 1000000) (h0 : R 0 []) (hk : ∀ L acc, μ1 L = none → kp (put μ1 L (.lst acc)))
    (hd : ∀ acc, acc.length ≤ ds.length → R ds.length acc → Q (.lst acc) μ1)
    (hs : ∀ L i d acc, μ1 L = none → acc.length ≤ i → ds[i]? = some d → R i acc → g d (wipeD ρ vs) (put μ1 L (.lst acc)) fun ρ2 μ2 => t ρ2 μ2 fun b μ3 => Br b (a ρ2 μ3 fun e μ4 => ∃ acc, μ4 L = some (.lst acc) ∧ acc.length ≤ i ∧ lcP R μ1 L (i + 1) (put μ4 L (.lst (acc ++ [e])))) (lcP R μ1 L (i + 1) μ3)) :
    ds.length ≤ 1000000 ∧ ∀ L, μ1 L = none → ∃ P : Nat → Mu → Prop, P 0 (put μ1 L (.lst [])) ∧ (∀ i μ, i ≤ ds.length → P i μ → kp μ) ∧
  (∀ i d μ, ds[i]? = some d → P i μ → g d (wipeD ρ vs) μ fun ρ2 μ2 => t ρ2 μ2 fun b μ3 => Br b (a ρ2 μ3 fun e μ4 => ∃ acc, μ4 L = some (.lst acc) ∧ acc.length ≤ i ∧ P (i + 1) (put μ4 L (.lst (acc ++ [e])))) (P (i + 1) μ3)) ∧
  ∀ μ, P ds.length μ → wkR Q (.at L) μ := by
  refine ⟨sz, fun L hL => ⟨lcP R μ1 L, ⟨[], rfl, Nat.le_refl _, h0⟩, ?_, ?_, ?_⟩⟩
  · rintro i μ _ ⟨acc, rfl, _, _⟩
    exact hk L acc hL
  · rintro i d μ hd ⟨acc, rfl, la, r⟩
    exact hs L i d acc hL la hd r
  · rintro μ ⟨acc, rfl, la, r⟩
    exact .froze ((Less.refl μ1).put hL) put_same hL (hd acc la r)
theorem lc_more {R : Nat → List D → Prop} {μ1 : Mu} {L : Addr} {i : Nat} {acc : List D} {e : D} (l : acc.length ≤ i) (r : R (i + 1) (acc ++ [e])) : ∃ acc', (put μ1 L (.lst acc)) L = some (.lst acc') ∧ acc'.length ≤ i ∧ lcP R μ1 L (i + 1) (put (put μ1 L (.lst acc)) L (.lst (acc' ++ [e]))) :=
  ⟨acc, put_same, l, acc ++ [e], put_put, by simp; omega, r⟩
theorem lc_skip {R : Nat → List D → Prop} {μ1 : Mu} {L : Addr} {i : Nat} {acc : List D} (l : acc.length ≤ i) (r : R (i + 1) acc) : lcP R μ1 L (i + 1) (put μ1 L (.lst acc)) := ⟨acc, rfl, by omega, r⟩
end Dl

namespace Dl
open PySem PySem.Spec PyProof.Rows L2
variable {B : Bs}
/-! ### dicts as tables of data -/
section
variable {κ : Type} [DecidableEq κ]
def atD (kvs : List (κ × D)) (k : κ) : Option D := (kvs.find? fun kv => decide (kv.1 = k)).map (·.2)
def putD (kvs : List (κ × D)) (k : κ) (v : D) : List (κ × D) := if (kvs.any fun kv => decide (kv.1 = k)) = true then kvs.map (fun kv => if kv.1 = k then (kv.1, v) else kv) else kvs ++ [(k, v)]
def dropD (kvs : List (κ × D)) (k : κ) : List (κ × D) := kvs.filter fun kv => decide (kv.1 ≠ k)
variable {M : Ms} {H : Hp}
theorem KD.any : ∀ {xs : List (κ × D)} {ys : List (κ × V)}, KD M H xs ys → ∀ k, (xs.any fun kv => decide (kv.1 = k)) = ys.any fun kv => decide (kv.1 = k)
  | _, _, .nil, _ => rfl
  | _, _, .cons r t, k => by rw [List.any_cons, List.any_cons, KD.any t k, r.1]
theorem KD.at : ∀ {xs : List (κ × D)} {ys : List (κ × V)}, KD M H xs ys → ∀ k, (∀ d, atD xs k = some d → ∃ v, valV ys k = some v ∧ VD M H d v) ∧ (atD xs k = none → valV ys k = none)
  | _, _, .nil, k => ⟨fun d e => (by cases e), fun _ => rfl⟩
  | (a, d) :: xs, (b, v) :: ys, .cons r t, k => by
    obtain ⟨e, hv⟩ := r
    have e' : a = b := e
    subst e'
    have ih := KD.at t k
    unfold atD valV at *
    rw [List.find?_cons, List.find?_cons]
    by_cases q : a = k
    · simp only [q, decide_true]
      exact ⟨fun d' e => by cases e; exact ⟨v, rfl, hv⟩, fun e => by cases e⟩
    · simp only [decide_eq_false q]
      exact ih
theorem KD.map {v : V} {d : D} (hv : VD M H d v) (k : κ) : ∀ {xs : List (κ × D)} {ys : List (κ × V)}, KD M H xs ys → KD M H (xs.map fun kv => if kv.1 = k then (kv.1, d) else kv) (ys.map fun kv => if kv.1 = k then (kv.1, v) else kv)
  | _, _, .nil => .nil
  | (a, x) :: xs, (b, y) :: ys, .cons r t => by
    obtain ⟨e, hx⟩ := r
    have e' : a = b := e
    subst e'
    refine .cons ?_ (KD.map hv k t)
    show (if a = k then (a, d) else (a, x)).1 = (if a = k then (a, v) else (a, y)).1 ∧ VD M H (if a = k then (a, d) else (a, x)).2 (if a = k then (a, v) else (a, y)).2
    by_cases q : a = k
    · rw [if_pos q, if_pos q]
      exact ⟨rfl, hv⟩
    · rw [if_neg q, if_neg q]
      exact ⟨rfl, hx⟩
theorem KD.app : ∀ {xs xs' : List (κ × D)} {ys ys' : List (κ × V)}, KD M H xs ys → KD M H xs' ys' → KD M H (xs ++ xs') (ys ++ ys')
  | _, _, _, _, .nil, g => g
  | _, _, _, _, .cons r t, g => .cons r (KD.app t g)
theorem KD.put {v : V} {d : D} (hv : VD M H d v) (k : κ) {xs : List (κ × D)} {ys : List (κ × V)} (h : KD M H xs ys) : KD M H (putD xs k d) (putK ys k v) := by
  unfold putD putK
  rw [h.any k]
  split
  · exact KD.map hv k h
  · exact h.app (.cons ⟨rfl, hv⟩ .nil)
theorem KD.drop (k : κ) : ∀ {xs : List (κ × D)} {ys : List (κ × V)}, KD M H xs ys → KD M H (dropD xs k) (dropK ys k)
  | _, _, .nil => .nil
  | (a, x) :: xs, (b, y) :: ys, .cons r t => by
    obtain ⟨e, hx⟩ := r
    have e' : a = b := e
    subst e'
    unfold dropD dropK at *
    by_cases q : a = k
    · rw [List.filter_cons_of_neg (by simp [q]), List.filter_cons_of_neg (by simp [q])]
      exact KD.drop k t
    · rw [List.filter_cons_of_pos (by simp [q]), List.filter_cons_of_pos (by simp [q])]
      exact .cons ⟨rfl, hx⟩ (KD.drop k t)
theorem KD.length : ∀ {xs : List (κ × D)} {ys : List (κ × V)}, KD M H xs ys → xs.length = ys.length
  | _, _, .nil => rfl
  | _, _, .cons _ t => congrArg (· + 1) (KD.length t)
theorem KD.get : ∀ {xs : List (κ × D)} {ys : List (κ × V)} {i : Nat} {k : κ} {d : D}, KD M H xs ys → xs[i]? = some (k, d) → ∃ v, ys[i]? = some (k, v) ∧ VD M H d v
  | _, _, _, _, _, .nil, e => by simp at e
  | _, (b, v) :: ys, 0, k, d, .cons r t, e => by
    simp only [List.getElem?_cons_zero, Option.some.injEq] at e
    obtain ⟨e1, h⟩ := r
    subst e
    exact ⟨v, by rw [show k = b from e1]; rfl, h⟩
  | _, _ :: ys, i + 1, k, d, .cons r t, e => by
    obtain ⟨v, e1, h⟩ := KD.get (i := i) t (by simpa using e)
    exact ⟨v, by simpa using e1, h⟩
end

/-! ### keys -/
def keyD : D → Option Key
  | .int i => some (.inl i)
  | .str x => some (.inr x)
  | _ => none
def Dk : Key → D
  | .inl i => .int i
  | .inr x => .str x
theorem keyD_v {M : Ms} {H : Hp} {d : D} {k : Key} {v : V} (h : keyD d = some k) (r : VD M H d v) : v = kV k := by
  cases d with
  | int i =>
    cases h
    exact r
  | str i =>
    cases h
    exact r
  | _ => cases h
theorem Dk_v {M : Ms} {H : Hp} (k : Key) : VD M H (Dk k) (kV k) := by
  cases k <;> exact rfl
def keysD : List D → Option (List Key)
  | [] => some []
  | d :: ds => match keyD d, keysD ds with
    | some k, some ks => some (k :: ks)
    | _, _ => none
theorem keysD_v {M : Ms} {H : Hp} : ∀ {ds : List D} {ks : List Key} {xs : List V}, keysD ds = some ks → VDs M H ds xs → xs = ks.map kV
  | [], ks, xs, h, r => by
    cases h
    exact r
  | d :: ds, ks, xs, h, r => by
    obtain ⟨v, vs, rfl, r1, r2⟩ := r
    unfold keysD at h
    split at h
    · rename_i k ks' e1 e2
      cases h
      rw [keyD_v e1 r1, keysD_v e2 r2]
      rfl
    · cases h
/-- what the dict d holds at the key e -/
def GetD (μ : Mu) (d e : D) (o : Option D) : Prop := match d with
  | .at a => (∃ kvs k, (μ a = some (.dK kvs) ∨ ∃ ob ks, μ a = some (.fz ob ks kvs)) ∧ keyD e = some k ∧ o = atD kvs k) ∨ ∃ kvs ks k, μ a = some (.dT kvs) ∧ e = .tup ks ∧ keysD ks = some k ∧ o = atD kvs k
  | _ => False
def OV (M : Ms) (H : Hp) : Option D → Option V → Prop
  | none, r => r = none
  | some z, r => ∃ v, r = some v ∧ VD M H z v
theorem GetD.to {μ : Mu} {H : Hp} {d e : D} {o : Option D} {x y : V} (mh : MH μ H) (v1 : VD (MD μ) H d x) (v2 : VD (MD μ) H e y) (h : GetD μ d e o) :
    ∃ a r, x = .ref a ∧ DGet H a y r ∧ IsD H a ∧ OV (MD μ) H o r := by
  cases d with
  | «at» a =>
    rcases h with ⟨kvs, k, h1, h2, rfl⟩ | ⟨kvs, ks, k, h1, rfl, h3, rfl⟩
    · obtain ⟨ks, e1, kd⟩ : ∃ ks, Rd H a (.dK ks) ∧ KD (MD μ) H kvs ks := by
        rcases h1 with h1 | ⟨ob, ks, h1⟩
        · obtain ⟨ks, e1, kd⟩ := mh a _ h1
          exact ⟨ks, .inl e1, kd⟩
        · obtain ⟨e1, kd⟩ := mh a _ h1
          exact ⟨ks, .inr ⟨ob, e1⟩, kd⟩
      refine ⟨a, valV ks k, v1, .inl ⟨ks, k, e1, keyD_v h2 v2, rfl⟩, .inl ⟨ks, e1⟩, ?_⟩
      have q := kd.at k
      cases ez : atD kvs k with
      | none => exact q.2 ez
      | some z => exact q.1 z ez
    · obtain ⟨ks', e1, kd⟩ := mh a _ h1
      obtain ⟨b, xs, rfl, f, g⟩ := v2
      have ex := keysD_v h3 g
      subst ex
      refine ⟨a, valV ks' k, v1, .inr ⟨ks', k, b, .inl e1, rfl, f.2, rfl⟩, .inr ⟨ks', .inl e1⟩, ?_⟩
      have q := kd.at k
      cases ez : atD kvs k with
      | none => exact q.2 ez
      | some z => exact q.1 z ez
  | _ => exact h.elim
section
variable {X : Cx} {x y z : Expr} {a b c : WE} {pos : Pos}
/-- d[k] -/
def wDGet (d k : WE) : WE := fun ρ μ Q => d ρ μ fun e μ1 => k ρ μ1 fun f μ2 => ∃ v, GetD μ2 e f (some v) ∧ Q v μ2
theorem je_dget (hu : X.A.units + 1 < cLine) (ho : JE B X x a) (hi : JE B X y b) (hs : NoSl y := by exact fun _ _ => rfl) : JE B X (.Subscript x y pos) (wDGet a b) := PE.of (pe_dget hu ho hi hs) fun σ H Q ⟨ρ, μ, QD, rs, m, h, k⟩ =>
  up_mk rs m h fun v H1 d μ1 s1 m1 v1 h1 => up_mk (rs.step s1) m1 h1 fun u H2 e μ2 s2 m2 v2 ⟨z, g, q⟩ => by
    obtain ⟨p, r, ep, dg, _, v, er, hv⟩ := g.to m2 (VD.step s2 _ _ v1) v2
    subst er
    exact ⟨p, v, ep, dg, k _ _ ⟨z, μ2, s1.trans s2, m2, hv, q⟩⟩
/-- k in d, k not in d -/
def wDIn (n : Bool) (k d : WE) : WE := fun ρ μ Q => k ρ μ fun f μ1 => d ρ μ1 fun e μ2 => ∃ o, GetD μ2 e f o ∧ Q (.bl (if n then !o.isSome else o.isSome)) μ2
theorem GetD.some {o : Option D} {r : Option V} {M : Ms} {H : Hp} (h : OV M H o r) : r.isSome = o.isSome := by
  cases o with
  | none => rw [show r = none from h]; rfl
  | some z => obtain ⟨v, e, _⟩ := h; rw [e]; rfl
theorem je_din (hu : X.A.units + 1 < cLine) (hi : JE B X y b) (ho : JE B X x a) (hm : behindInMarks .In x = false := by rfl) : JE B X (.Compare y [.In] [x] pos) (wDIn false b a) := PE.of (pe_cmp (pc_din hu hi ho) hm) fun σ H Q ⟨ρ, μ, QD, rs, m, h, k⟩ =>
  up_mk rs m h fun v H1 d μ1 s1 m1 v1 h1 => up_mk (rs.step s1) m1 h1 fun u H2 e μ2 s2 m2 v2 ⟨o, g, q⟩ => by
    obtain ⟨p, r, ep, dg, _, hv⟩ := g.to m2 v2 (VD.step s2 _ _ v1)
    refine ⟨p, r, ep, dg, ?_⟩
    rw [GetD.some hv]
    exact k _ _ ⟨.bl _, μ2, s1.trans s2, m2, rfl, q⟩
theorem je_dnotin (hu : X.A.units + 1 < cLine) (hi : JE B X y b) (ho : JE B X x a) (hm : behindInMarks .NotIn x = false := by rfl) : JE B X (.Compare y [.NotIn] [x] pos) (wDIn true b a) := PE.of (pe_cmp (pc_dnotin hu hi ho) hm) fun σ H Q ⟨ρ, μ, QD, rs, m, h, k⟩ =>
  up_mk rs m h fun v H1 d μ1 s1 m1 v1 h1 => up_mk (rs.step s1) m1 h1 fun u H2 e μ2 s2 m2 v2 ⟨o, g, q⟩ => by
    obtain ⟨p, r, ep, dg, _, hv⟩ := g.to m2 v2 (VD.step s2 _ _ v1)
    refine ⟨p, r, ep, dg, ?_⟩
    rw [GetD.some hv]
    exact k _ _ ⟨.bl _, μ2, s1.trans s2, m2, rfl, q⟩
theorem pt_pe {t : TE} {e : Expr} (h : PT X e (tB t)) : PT X e (tTest t) := PT.of h fun _ _ _ q => q
theorem jt_din (hu : X.A.units + 1 < cLine) (hi : JE B X y b) (ho : JE B X x a) (hm : behindInMarks .In x = false := by rfl) : JT B X (.Compare y [.In] [x] pos) (wB (wDIn false b a)) := PT.of (pt_cmp (pc_din hu hi ho) hm) fun σ H Q h => by
  obtain ⟨ρ, μ, QD, rs, m, h, k⟩ := h
  refine up_mk rs m h fun v H1 d μ1 s1 m1 v1 h1 => up_mk (rs.step s1) m1 h1 fun u H2 e μ2 s2 m2 v2 ⟨o, g, q⟩ => ?_
  obtain ⟨p, r, ep, dg, _, hv⟩ := g.to m2 v2 (VD.step s2 _ _ v1)
  refine ⟨p, r, ep, dg, _, rfl, ?_⟩
  rw [GetD.some hv]
  exact k _ _ _ (s1.trans s2) m2 q
theorem jt_dnotin (hu : X.A.units + 1 < cLine) (hi : JE B X y b) (ho : JE B X x a) (hm : behindInMarks .NotIn x = false := by rfl) : JT B X (.Compare y [.NotIn] [x] pos) (wB (wDIn true b a)) := PT.of (pt_cmp (pc_dnotin hu hi ho) hm) fun σ H Q h => by
  obtain ⟨ρ, μ, QD, rs, m, h, k⟩ := h
  refine up_mk rs m h fun v H1 d μ1 s1 m1 v1 h1 => up_mk (rs.step s1) m1 h1 fun u H2 e μ2 s2 m2 v2 ⟨o, g, q⟩ => ?_
  obtain ⟨p, r, ep, dg, _, hv⟩ := g.to m2 v2 (VD.step s2 _ _ v1)
  refine ⟨p, r, ep, dg, _, rfl, ?_⟩
  rw [GetD.some hv]
  exact k _ _ _ (s1.trans s2) m2 q
/-- d.get(k), d.get(k, x) -/
def wDGet1 (d k : WE) : WE := fun ρ μ Q => d ρ μ fun e μ1 => (∃ p, e = .at p) ∧ k ρ μ1 fun f μ2 => ∃ o, GetD μ2 e f o ∧ Q (o.getD .non) μ2
def isDic (μ : Mu) (e : D) : Prop := ∃ p, e = .at p ∧ ((∃ kvs, μ p = some (.dK kvs)) ∨ (∃ kvs, μ p = some (.dT kvs)) ∨ ∃ ob ks kvs, μ p = some (.fz ob ks kvs))
theorem isDic.to {μ : Mu} {H : Hp} {e : D} {v : V} (mh : MH μ H) (hv : VD (MD μ) H e v) (h : isDic μ e) : ∃ p, v = .ref p ∧ IsD H p := by
  obtain ⟨p, rfl, h⟩ := h
  refine ⟨p, hv, ?_⟩
  rcases h with ⟨kvs, h⟩ | ⟨kvs, h⟩ | ⟨ob, ks, kvs, h⟩
  · obtain ⟨ks, e1, _⟩ := mh p _ h
    exact .inl ⟨ks, .inl e1⟩
  · obtain ⟨ks, e1, _⟩ := mh p _ h
    exact .inr ⟨ks, .inl e1⟩
  · obtain ⟨e1, _⟩ := mh p _ h
    exact .inl ⟨ks, .inr ⟨ob, e1⟩⟩
def wDGet2 (d k dv : WE) : WE := fun ρ μ Q => d ρ μ fun e μ1 => isDic μ1 e ∧ k ρ μ1 fun f μ2 => dv ρ μ2 fun z μ3 => ∃ o, GetD μ3 e f o ∧ Q (o.getD z) μ3
theorem je_dget2 {apos cpos : Pos} (hu : X.A.units + 1 < cLine) (ho : JE B X x a) (he : JE B X y b) (hf : JE B X z c) (m : M2 X x "get" apos y z cpos) : JE B X (.Call (.Attribute x "get" apos) [y, z] [] cpos) (wDGet2 a b c) := PE.of (pe_dget2 hu ho he hf m) fun σ H Q ⟨ρ, μ, QD, rs, m, h, k⟩ =>
  up_mk rs m h fun v H1 d μ1 s1 m1 v1 ⟨isd, h1⟩ => by
    obtain ⟨p, ep, hp⟩ := isd.to m1 v1
    refine ⟨p, ep, hp, up_mk (rs.step s1) m1 h1 fun u H2 e μ2 s2 m2 v2 h2 => up_mk ((rs.step s1).step s2) m2 h2 fun t H3 g μ3 s3 m3 v3 ⟨o, gd, q⟩ => ?_⟩
    obtain ⟨p', r, ep', dg, _, hv⟩ := gd.to m3 (VD.step (s2.trans s3) _ _ v1) (VD.step s3 _ _ v2)
    rw [ep] at ep'
    cases ep'
    refine ⟨r, dg, k _ _ ⟨o.getD g, μ3, (s1.trans s2).trans s3, m3, ?_, q⟩⟩
    cases o with
    | none => rw [show r = none from hv]; exact v3
    | some z => obtain ⟨w, e, hw⟩ := hv; rw [e]; exact hw
/-- d[k] = v -/
def PutD (μ : Mu) (d e v : D) (Q : Mu → Prop) : Prop := match d with
  | .at p => (∃ kvs k, μ p = some (.dK kvs) ∧ keyD e = some k ∧ kvs.length ≤ 1000000 ∧ Q (put μ p (.dK (putD kvs k v)))) ∨ ∃ kvs ks k, μ p = some (.dT kvs) ∧ e = .tup ks ∧ keysD ks = some k ∧ kvs.length ≤ 1000000 ∧ Q (put μ p (.dT (putD kvs k v)))
  | _ => False
def wDPut (d k v : WE) : WS := fun DD ρ μ => v ρ μ fun g μ1 => d ρ μ1 fun e μ2 => k ρ μ2 fun f μ3 => PutD μ3 e f g fun μ4 => DD.nx ρ μ4
theorem js_dput {spos : Pos} (hu : X.A.units + 1 < cLine) (ho : JE B X x a) (hi : JE B X y b) (hv : JE B X z c) (hs : swapsWith z (some (.Subscript x y pos)) spos.line X.env = pure false := by rfl) (h2 : ∀ v, assign (.Subscript x y pos) X.env v = (do let ov ← holding [v] (eval x X.env); let iv ← holding [v, ov] (eval y X.env); standAt pos; holding [v, ov, iv] (setItem ov iv v); release [v, ov, iv] []) := by intro _; rfl) :
    JS B X (.Assign [.Subscript x y pos] z spos) (wDPut a b c) := PS.of (ps_dput hu ho hi hv hs) fun E σ H ⟨ρ, μ, DD, rs, m, h, l⟩ =>
  up_mk rs m h fun v H1 g μ1 s1 m1 v1 h1 => up_mk (rs.step s1) m1 h1 fun u H2 d μ2 s2 m2 v2 h2 => up_mk ((rs.step s1).step s2) m2 h2 fun t H3 e μ3 s3 m3 v3 h3 => by
    have s123 := (s1.trans s2).trans s3
    have v2' := VD.step s3 _ _ v2
    have v1' := VD.step (s2.trans s3) _ _ v1
    unfold PutD at h3
    split at h3
    · rename_i p
      rcases h3 with ⟨kvs, k, h4, h5, h6, h7⟩ | ⟨kvs, ks, k, h4, rfl, h5, h6, h7⟩
      · obtain ⟨ks, e1, kd⟩ := m3 p _ h4
        have st : Step (MD μ3) H3 (MD (put μ3 p (.dK (putD kvs k g)))) (upd H3 p (.dK (putK ks k v))) := .write ⟨_, h4⟩
        refine ⟨p, _, v2', .inl ⟨ks, k, e1, keyD_v h5 v3, ?_, rfl⟩, l.nx σ _ ρ _ (s123.trans st) (rs.step (s123.trans st)) (m3.write ⟨_, h4⟩ ⟨_, upd_same, KD.step st (kd.put v1' k)⟩) h7⟩
        rw [← kd.length, sizeLine_eq]
        omega
      · obtain ⟨ks', e1, kd⟩ := m3 p _ h4
        obtain ⟨q, xs, rfl, f, gg⟩ := v3
        have ex := keysD_v h5 gg
        subst ex
        have st : Step (MD μ3) H3 (MD (put μ3 p (.dT (putD kvs k g)))) (upd H3 p (.dT (putK ks' k v))) := .write ⟨_, h4⟩
        refine ⟨p, _, v2', .inr ⟨ks', k, q, e1, rfl, f.2, ?_, rfl⟩, l.nx σ _ ρ _ (s123.trans st) (rs.step (s123.trans st)) (m3.write ⟨_, h4⟩ ⟨_, upd_same, KD.step st (kd.put v1' k)⟩) h7⟩
        rw [← kd.length, sizeLine_eq]
        omega
    · exact h3.elim
/-- del d[k] -/
def DelD (μ : Mu) (d e : D) (Q : Mu → Prop) : Prop := match d with
  | .at p => (∃ kvs k, μ p = some (.dK kvs) ∧ keyD e = some k ∧ (atD kvs k).isSome = true ∧ Q (put μ p (.dK (dropD kvs k)))) ∨ ∃ kvs ks k, μ p = some (.dT kvs) ∧ e = .tup ks ∧ keysD ks = some k ∧ (atD kvs k).isSome = true ∧ Q (put μ p (.dT (dropD kvs k)))
  | _ => False
def wDDel (d k : WE) : WS := fun DD ρ μ => d ρ μ fun e μ1 => k ρ μ1 fun f μ2 => DelD μ2 e f fun μ3 => DD.nx ρ μ3
theorem d_delItemT {pins : List (Addr × Obj)} {σ : L2.St} {H : Hp} {s : Shared} {E : Value → Shared → Prop} {p q : Addr} {kvs : List (List Key × V)} {k : List Key} {Q : Unit → Shared → Prop} (hu : X.A.units + 2 < cLine) (I : Inv X pins σ H s) (e : H p = some (.dT kvs)) (eq : H q = some (.tup (k.map kV)))
    (l : (valV kvs k).isSome = true) (h : ∀ s', Inv X pins σ (upd H p (.dT (dropK kvs k))) s' → Q () s') : wpAny (model X.prog X.w) X.A (delItem (.ref p) (.ref q)) Q E s := by
  obtain ⟨z, hd, xs, rel, dd⟩ := dt_of I.hok e
  have hz : xs.length ≤ sizeLine := by rw [← Paired.length rel]; exact z
  have r := rel.val k
  obtain ⟨pp, hp⟩ : ∃ pp, atKey xs k = some pp := by
    cases ev : atKey xs k with
    | some pp => exact ⟨pp, rfl⟩
    | none =>
      rw [ev] at r
      cases ev2 : valV kvs k with
      | none => rw [ev2] at l; cases l
      | some v0 =>
        rw [ev2] at r
        exact (show False from r).elim
  refine wpAny_delItem_heap (hsz := hz) (tupleKind_room_in1 (by omega)) (key_of I.hok eq) hd dd hp fun h' dd' hs => h _ ?_
  obtain ⟨o, es, ep, hq, h2, h3, h4, _, h5⟩ := dd'
  exact d_write I (by rw [e]; exact True.intro) hs ⟨o, hq⟩ ⟨Nat.le_trans (dropK_le kvs k) z, hd, _, (L2.DX.KT_drop k rel).keeps (fun c ys ec => (by rw [upd_ne (ne_of ec e (fun z => nomatch z))]; exact ec)), o, es, ep, hq, h2, h3, h4, h5⟩
theorem js_ddel {tpos : Pos} (hu : X.A.units + 2 < cLine) (ho : JE B X x a) (hi : JE B X y b) : JS B X (.Delete [.Subscript x y tpos] pos) (wDDel a b) := ⟨fun pins s σ H E I ⟨ρ, μ, DD, rs, m, h, l⟩ => by
  have h1 := ho.run pins s σ H (fun v H1 => ∃ d μ1, Step (MD μ) H (MD μ1) H1 ∧ MH μ1 H1 ∧ VD (MD μ1) H1 d v ∧ b ρ μ1 fun f μ2 => DelD μ2 d f fun μ3 => DD.nx ρ μ3) I (up_mk rs m h fun v H' d μ' a b c e => ⟨d, μ', a, b, c, e⟩)
  refine wpAny_Delete (wpAny_deleteEach_cons (wpAny_delete_Subscript (thn h1 fun u s1 ⟨x, H1, I1, rx, d, μ1, st1, m1, v1, q1⟩ => ?_)))
  have h2 := hi.run pins s1 σ H1 (fun v H2 => ∃ e μ2, Step (MD μ1) H1 (MD μ2) H2 ∧ MH μ2 H2 ∧ VD (MD μ2) H2 e v ∧ DelD μ2 d e fun μ3 => DD.nx ρ μ3) I1 (up_mk (rs.step st1) m1 q1 fun v H' d μ' a b c e => ⟨d, μ', a, b, c, e⟩)
  refine thn h2 fun iv s2 ⟨y, H2, I2, ry, e, μ2, st2, m2, v2, q2⟩ => ?_
  unfold DelD at q2
  split at q2
  · rename_i p _
    rw [show x = V.ref p from v1] at rx
    obtain rfl : u = Value.ref p := rx
    have st := st1.trans st2
    rcases q2 with ⟨kvs, k, h4, h5, h6, h7⟩ | ⟨kvs, ks, k, h4, rfl, h5, h6, h7⟩
    · obtain ⟨ks, e1, kd⟩ := m2 p _ h4
      rw [keyD_v h5 v2] at ry
      have sw : Step (MD μ2) H2 (MD (put μ2 p (.dK (dropD kvs k)))) (upd H2 p (.dK (dropK ks k))) := .write ⟨_, h4⟩
      refine d_delItem I2 e1 ry ?_ fun s3 I3 => wpAny_deleteEach_nil ⟨σ, _, I3, l.nx σ _ ρ _ (st.trans sw) (rs.step (st.trans sw)) (m2.write ⟨_, h4⟩ ⟨_, upd_same, KD.step sw (kd.drop k)⟩) h7⟩
      cases ez : atD kvs k with
      | none => rw [ez] at h6; cases h6
      | some z => obtain ⟨v, ev, _⟩ := (kd.at k).1 z ez; rw [ev]; rfl
    · obtain ⟨ks', e1, kd⟩ := m2 p _ h4
      obtain ⟨q, xs, rfl, f, gg⟩ := v2
      have ex := keysD_v h5 gg
      subst ex
      obtain rfl : iv = Value.ref q := ry
      have sw : Step (MD μ2) H2 (MD (put μ2 p (.dT (dropD kvs k)))) (upd H2 p (.dT (dropK ks' k))) := .write ⟨_, h4⟩
      refine d_delItemT hu I2 e1 f.2 ?_ fun s3 I3 => wpAny_deleteEach_nil ⟨σ, _, I3, l.nx σ _ ρ _ (st.trans sw) (rs.step (st.trans sw)) (m2.write ⟨_, h4⟩ ⟨_, upd_same, KD.step sw (kd.drop k)⟩) h7⟩
      cases ez : atD kvs k with
      | none => rw [ez] at h6; cases h6
      | some z => obtain ⟨v, ev, _⟩ := (kd.at k).1 z ez; rw [ev]; rfl
  · exact q2.elim⟩
/-- {} -/
def wDNewK : WE := fun _ μ Q => ∀ p, μ p = none → Q (.at p) (put μ p (.dK []))
def wDNewT : WE := fun _ μ Q => ∀ p, μ p = none → Q (.at p) (put μ p (.dT []))
theorem je_dnewK : JE B X (.Dict [] [] pos) wDNewK := PE.of pe_dnewK fun σ H Q ⟨ρ, μ, QD, rs, m, h, k⟩ p hp => k _ _ ⟨.at p, put μ p (.dK []), .newM hp, m.newM (x := .dK []) hp ⟨[], upd_same, .nil⟩, rfl, h p (m.free hp)⟩
theorem je_dnewT : JE B X (.Dict [] [] pos) wDNewT := PE.of pe_dnewT fun σ H Q ⟨ρ, μ, QD, rs, m, h, k⟩ p hp => k _ _ ⟨.at p, put μ p (.dT []), .newM hp, m.newM (x := .dT []) hp ⟨[], upd_same, .nil⟩, rfl, h p (m.free hp)⟩
/-- a dict is locked while it is walked: within an expression, a statement -/
def wLockE (w : WE) : WE := fun ρ μ Q => ∃ p kvs, μ p = some (.dK kvs) ∧ ∀ o ks, w ρ (put μ p (.fz o ks kvs)) fun d μ' => μ' p = some (.fz o ks kvs) ∧ Q d (put μ' p (.dK kvs))
theorem je_lock {w : WE} (h : JE B X x w) : JE B X x (wLockE w) := PE.of (pe_lock h) fun σ H Q ⟨ρ, μ, QD, rs, m, ⟨p, kvs, hp, h⟩, k⟩ => by
  obtain ⟨ks, e1, kd⟩ := m p _ hp
  refine ⟨p, .dK ks, e1, True.intro, fun od => ?_⟩
  have st : Step (MD μ) H (MD (put μ p (.fz od ks kvs))) (upd H p (.frz od (.dK ks))) := .write ⟨_, hp⟩
  refine up_mk (rs.step st) (m.write ⟨_, hp⟩ ⟨upd_same, KD.step st kd⟩) (h od ks) fun v H1 d μ1 s1 m1 v1 ⟨h1, q1⟩ => ?_
  obtain ⟨e2, kd2⟩ := m1 p _ h1
  have st2 : Step (MD μ1) H1 (MD (put μ1 p (.dK kvs))) (upd H1 p (.dK ks)) := .write ⟨_, h1⟩
  exact ⟨e2, k _ _ ⟨d, _, (st.trans s1).trans st2, m1.write ⟨_, h1⟩ ⟨_, upd_same, KD.step st2 kd2⟩, VD.step st2 _ _ v1, q1⟩⟩
/-- d.items() walked, under the lock -/
def wItems (w : WE) : WI := fun ρ μ Q => w ρ μ fun d μ1 => ∃ p o ks kvs, d = .at p ∧ μ1 p = some (.fz o ks kvs) ∧ Q (kvs.map fun q => .tup [Dk q.1, q.2]) (fun μ => μ p = some (.fz o ks kvs)) μ1
theorem ji_items {w : WE} {elts : List Expr} {kk : Nat} {tpos apos cpos : Pos} (he : JE B X x w) (hbase : attributeBase x "items" X.env (eval x X.env) = eval x X.env := by rfl) (hline : (apos.endLine == cpos.line) = true := by rfl) : JI B X (.Tuple elts kk tpos) (.Call (.Attribute x "items" apos) [] [] cpos) (wItems w) :=
  PI.of (pi_items he hbase hline) fun σ H R ⟨ρ, μ, QD, rs, m, h, k⟩ => up_mk rs m h fun v H1 d μ1 s1 m1 v1 ⟨p, o, ks, kvs, ed, hp, h1⟩ => by
    subst ed
    obtain ⟨e1, kd⟩ := m1 p _ hp
    refine ⟨p, o, ks, v1, e1, k _ H1 _ (fun μ => μ p = some (.fz o ks kvs)) μ1 s1 m1 ⟨fun i H2 hi ⟨μ2, st, mh, kp⟩ => ?_, fun H2 ⟨μ2, st, mh, kp⟩ => ?_, fun i H2 x H' hi _ ⟨T, ky, v, e2, ex, hT, e3⟩ μ2 st mh kp => ?_⟩ h1⟩
    · obtain ⟨e2, kd2⟩ := mh p _ kp
      exact ⟨e2, by rw [← kd.length]; simpa using hi⟩
    · obtain ⟨e2, kd2⟩ := mh p _ kp
      exact ⟨e2, by rw [← kd.length]; simp⟩
    · obtain ⟨_, kd2⟩ := mh p _ kp
      subst ex e3
      have hi' : i < kvs.length := by simpa using hi
      obtain ⟨v', e4, hv⟩ := kd2.get (i := i) (k := kvs[i].1) (d := kvs[i].2) (List.getElem?_eq_getElem hi')
      rw [e2] at e4
      cases e4
      have st2 : Step (MD μ2) H2 (MD μ2) (upd H2 T (.tup [kV kvs[i].1, v])) := .new hT
      exact ⟨.tup [Dk kvs[i].1, kvs[i].2], by rw [List.getElem?_map, List.getElem?_eq_getElem hi']; rfl, st2, mh.newF hT, ⟨T, _, rfl, ⟨fun ⟨u, q⟩ => (by rw [mh.free hT] at q; cases q), upd_same⟩, _, _, rfl, Dk_v _, _, _, rfl, VD.step st2 _ _ hv, rfl⟩⟩
end
end Dl

namespace Dl
open PySem PySem.Spec PyProof.Rows L2
variable {B : Bs}
/-! ### built-ins called by name -/
def wFN (r : FN) (a : WA) : WE := fun ρ μ Q => a ρ μ fun ds μ1 => r ds μ1 Q
section
variable {X : Cx} {x : Str} {p pos : Pos} {e : Expr} {es : List Expr} {a : WA} {id T : String} {r : FN}
theorem up_cb {σ : L2.St} {H : Hp} {Q : VK} (h : up B (wFN r a) σ H Q) : tCB (upFN r) (upA B a) σ H Q := by
  obtain ⟨ρ, μ, QD, rs, m, h, k⟩ := h
  exact ⟨ρ, μ, _, rs, m, h, fun vs H1 ds μ1 s1 m1 v1 h1 => ⟨ds, μ1, QD, v1, m1, h1, fun v H' q => k v H' (q.trans s1)⟩⟩
theorem je_cb (hc : CallR X (.builtin id) (upFN r)) (hm : X.mg x = none) (ha : JA B X (e :: es) a) (hv : bootBuiltins x = some (.builtin id) := by decide +kernel) (hg : Gl X x := by rfl) (hn : x ≠ "__name__" := by decide) (hdb : (x == ("__debug__" : Str)) = false := by decide)
    (he : starEach (e :: es) X.env = (false, eval e X.env) :: starEach es X.env := by rfl) (hpl : (backTo pos (starEach es X.env)).any (·.1) = false := by rfl) : JE B X (.Call (.Name x p) (e :: es) [] pos) (wFN r a) := PE.of (pe_callB hc hg hm hv ha hn hdb he hpl) fun _ _ _ h => up_cb h
theorem je_cty (hc : CallR X (.type T) (upFN r)) (hm : X.mg x = none) (ha : JA B X (e :: es) a) (hv : bootBuiltins x = some (.type T) := by decide +kernel) (hg : Gl X x := by rfl) (hn : x ≠ "__name__" := by decide) (hdb : (x == ("__debug__" : Str)) = false := by decide)
    (he : starEach (e :: es) X.env = (false, eval e X.env) :: starEach es X.env := by rfl) (hpl : (backTo pos (starEach es X.env)).any (·.1) = false := by rfl) : JE B X (.Call (.Name x p) (e :: es) [] pos) (wFN r a) := PE.of (pe_callTy hc hg hm hv ha hn hdb he hpl) fun _ _ _ h => up_cb h
end
section
variable {X : Cx}
/-! ### len, isinstance, abs, max, min, sum, all -/
def fLen : FN := fun ds μ Q => match ds with
  | [.str z] => z.length ≤ sizeLine ∧ Q (.int z.length) μ
  | [d] => ∃ xs, Sq μ d xs ∧ Q (.int xs.length) μ
  | _ => False
theorem cd_len : CallR X (.builtin "len") (upFN fLen) := CallR.of (call_len_str.or call_len_seq) fun xs H Q ⟨ds, μ, QD, v, m, h, k⟩ => by
  unfold fLen at h
  split at h
  · rename_i z
    obtain ⟨v1, vs, rfl, r1, e⟩ := v
    rw [show vs = [] from e, show v1 = V.str z from r1]
    exact .inl ⟨z, rfl, h.1, k _ _ (lft_mk (d := .int _) m rfl h.2)⟩
  · rename_i d _
    obtain ⟨v1, vs, rfl, r1, e⟩ := v
    rw [show vs = [] from e]
    obtain ⟨xs, h1, h2⟩ := h
    obtain ⟨a, ys, rfl, h3, h4⟩ := h1.to X.K m r1
    refine .inr ⟨a, ys, rfl, h3, ?_⟩
    rw [← h4.length]
    exact k _ _ (lft_mk (d := .int _) m rfl h2)
  · exact h.elim
/-- what built-in type the data is of -/
def kindD (μ : Mu) : D → String → Prop
  | .non, n => n = "NoneType"
  | .bl _, n => n = "bool"
  | .int _, n => n = "int"
  | .str _, n => n = "str"
  | .lst _, n => n = "list"
  | .tup _, n => n = "tuple"
  | .at a, n => ((∃ k, μ a = some (.lst k)) ∧ n = "list") ∨ ((∃ k, μ a = some (.dK k)) ∧ n = "dict") ∨ ((∃ k, μ a = some (.dT k)) ∧ n = "dict")
  | .ty _, _ => False
theorem kindD.to {K : Frg} {μ : Mu} {H : Hp} {d : D} {n : String} {v : V} (m : MH μ H) (r : VD (MD μ) H d v) (h : kindD μ d n) : TyOf K H v (.type n) := by
  cases d with
  | non => rw [show v = V.non from r, show n = "NoneType" from h]; exact .non
  | bl b => rw [show v = V.bl b from r, show n = "bool" from h]; exact .bl b
  | int b => rw [show v = V.int b from r, show n = "int" from h]; exact .int b
  | str b => rw [show v = V.str b from r, show n = "str" from h]; exact .str b
  | lst b => obtain ⟨a, xs, rfl, f, _⟩ := r; rw [show n = "list" from h]; exact .lst f.2
  | tup b => obtain ⟨a, xs, rfl, f, _⟩ := r; rw [show n = "tuple" from h]; exact .tup f.2
  | «at» a =>
    rw [show v = V.ref a from r]
    rcases h with ⟨⟨k, e⟩, rfl⟩ | ⟨⟨k, e⟩, rfl⟩ | ⟨⟨k, e⟩, rfl⟩
    · obtain ⟨xs, e, _⟩ := m a _ e; exact .lst e
    · obtain ⟨xs, e, _⟩ := m a _ e; exact .dK e
    · obtain ⟨xs, e, _⟩ := m a _ e; exact .dT e
  | ty _ => exact h.elim
def fIsi : FN := fun ds μ Q => match ds with
  | [d, .ty c] => ∃ n b, kindD μ d n ∧ kitB n c = some b ∧ Q (.bl b) μ
  | _ => False
theorem cd_isi : CallR X (.builtin "isinstance") (upFN fIsi) := CallR.of call_isi fun xs H Q ⟨ds, μ, QD, v, m, h, k⟩ => by
  unfold fIsi at h
  split at h
  · rename_i d c
    obtain ⟨v1, vs, rfl, r1, v2, ws, rfl, r2, e⟩ := v
    rw [show ws = [] from e, show v2 = V.ty c from r2]
    obtain ⟨n, b, h1, h2, h3⟩ := h
    exact ⟨v1, .ty c, .type n, .type c, b, rfl, .ty c, .base (h1.to m r1), kit_ty h2, k _ _ (lft_mk (d := .bl _) m rfl h3)⟩
  · exact h.elim
def fAbs : FN := fun ds μ Q => match ds with
  | [.int i] => Q (.int (if i < 0 then -i else i)) μ
  | _ => False
theorem cd_abs : CallR X (.builtin "abs") (upFN fAbs) := CallR.of call_abs fun xs H Q ⟨ds, μ, QD, v, m, h, k⟩ => by
  unfold fAbs at h
  split at h
  · rename_i i
    obtain ⟨v1, vs, rfl, r1, e⟩ := v
    rw [show vs = [] from e, show v1 = V.int i from r1]
    exact ⟨i, rfl, k _ _ (lft_mk (d := .int _) m rfl h)⟩
  · exact h.elim
/-- ints out of two ints -/
def fII (g : Int → Int → Int) : FN := fun ds μ Q => match ds with
  | [.int i, .int j] => Q (.int (g i j)) μ
  | _ => False
theorem cd_max2 (hc : X.calm = true) : CallR X (.builtin "max") (upFN (fII fun i j => if j > i then j else i)) := CallR.of (call_max2 hc) fun xs H Q ⟨ds, μ, QD, v, m, h, k⟩ => by
  unfold fII at h
  split at h
  · rename_i i j
    obtain ⟨v1, vs, rfl, r1, v2, ws, rfl, r2, e⟩ := v
    rw [show ws = [] from e, show v2 = V.int j from r2, show v1 = V.int i from r1]
    exact ⟨i, j, rfl, k _ _ (lft_mk (d := .int _) m rfl h)⟩
  · exact h.elim
theorem cd_min2 (hc : X.calm = true) : CallR X (.builtin "min") (upFN (fII fun i j => if j < i then j else i)) := CallR.of (call_min2 hc) fun xs H Q ⟨ds, μ, QD, v, m, h, k⟩ => by
  unfold fII at h
  split at h
  · rename_i i j
    obtain ⟨v1, vs, rfl, r1, v2, ws, rfl, r2, e⟩ := v
    rw [show ws = [] from e, show v2 = V.int j from r2, show v1 = V.int i from r1]
    exact ⟨i, j, rfl, k _ _ (lft_mk (d := .int _) m rfl h)⟩
  · exact h.elim
theorem VDs.ints {M : Ms} {H : Hp} : ∀ {ns : List Int} {vs : List V}, VDs M H (ns.map .int) vs → vs = ns.map .int
  | [], _, h => h
  | n :: ns, _, ⟨v, vs, e, r, t⟩ => by rw [e, show v = V.int n from r, VDs.ints t]; rfl
theorem VDs.bls {M : Ms} {H : Hp} : ∀ {ns : List Bool} {vs : List V}, VDs M H (ns.map .bl) vs → vs = ns.map .bl
  | [], _, h => h
  | n :: ns, _, ⟨v, vs, e, r, t⟩ => by rw [e, show v = V.bl n from r, VDs.bls t]; rfl
theorem VDs.strs {M : Ms} {H : Hp} : ∀ {ns : List Str} {vs : List V}, VDs M H (ns.map .str) vs → vs = ns.map .str
  | [], _, h => h
  | n :: ns, _, ⟨v, vs, e, r, t⟩ => by rw [e, show v = V.str n from r, VDs.strs t]; rfl
def fSum : FN := fun ds μ Q => ∃ (d : D) (ns : List Int), ds = [d] ∧ Lr μ d (ns.map .int) ∧ Q (.int ns.sum) μ
theorem cd_sum (hc : X.calm = true) : CallR X (.builtin "sum") (upFN fSum) := CallR.of (cr_sum hc) fun xs H Q ⟨ds, μ, QD, v, m, ⟨d, ns, e, h1, h2⟩, k⟩ => by
  subst e
  obtain ⟨v1, vs, rfl, r1, e⟩ := v
  rw [show vs = [] from e]
  obtain ⟨a, ys, rfl, h3, h4⟩ := h1.to m r1
  rw [h4.ints] at h3
  exact ⟨a, ns, rfl, .inl h3, k _ _ (lft_mk (d := .int _) m rfl h2)⟩
def fAll : FN := fun ds μ Q => ∃ (d : D) (bs : List Bool), ds = [d] ∧ Lr μ d (bs.map .bl) ∧ Q (.bl (bs.all id)) μ
theorem cd_all (hc : X.calm = true) : CallR X (.builtin "all") (upFN fAll) := CallR.of (cr_all hc) fun xs H Q ⟨ds, μ, QD, v, m, ⟨d, ns, e, h1, h2⟩, k⟩ => by
  subst e
  obtain ⟨v1, vs, rfl, r1, e⟩ := v
  rw [show vs = [] from e]
  obtain ⟨a, ys, rfl, h3, h4⟩ := h1.to m r1
  rw [h4.bls] at h3
  exact ⟨a, ns, rfl, .inl h3, k _ _ (lft_mk (d := .bl _) m rfl h2)⟩
def fAny : FN := fun ds μ Q => ∃ (d : D) (bs : List Bool), ds = [d] ∧ Lr μ d (bs.map .bl) ∧ Q (.bl (bs.any id)) μ
theorem cd_any (hc : X.calm = true) : CallR X (.builtin "any") (upFN fAny) := CallR.of (cr_any hc) fun xs H Q ⟨ds, μ, QD, v, m, ⟨d, ns, e, h1, h2⟩, k⟩ => by
  subst e
  obtain ⟨v1, vs, rfl, r1, e⟩ := v
  rw [show vs = [] from e]
  obtain ⟨a, ys, rfl, h3, h4⟩ := h1.to m r1
  rw [h4.bls] at h3
  exact ⟨a, ns, rfl, .inl h3, k _ _ (lft_mk (d := .bl _) m rfl h2)⟩
/-- divmod by a positive number -/
def fDivmod : FN := fun ds μ Q => match ds with
  | [.int i, .int j] => CDivW i j ∧ Q (.tup [.int (i / j), .int (i % j)]) μ
  | _ => False
theorem cd_divmod : CallR X (.builtin "divmod") (upFN fDivmod) := CallR.of call_divmodW fun xs H Q ⟨ds, μ, QD, v, m, h, k⟩ => by
  unfold fDivmod at h
  split at h
  · rename_i i j
    obtain ⟨v1, vs, rfl, r1, v2, ws, rfl, r2, e⟩ := v
    rw [show ws = [] from e, show v2 = V.int j from r2, show v1 = V.int i from r1]
    exact ⟨i, j, rfl, ⟨h.1.1, PyProof.noPylong_of_log2 h.1.2⟩, fun p hp => k _ _ (lft_tup m (ds := [.int (i / j), .int (i % j)]) ⟨_, _, rfl, rfl, _, _, rfl, rfl, rfl⟩ hp h.2)⟩
  · exact h.elim
/-- list(x), x a list or tuple -/
def fListOf (mm : Bool) : FN := fun ds μ Q => ∃ d xs, ds = [d] ∧ Sq μ d xs ∧ New mm xs μ Q
theorem cd_list (mm : Bool) : CallR X (.type "list") (upFN (fListOf mm)) := CallR.of call_list_of fun xs H Q ⟨ds, μ, QD, v, m, ⟨d, ns, e, h1, h2⟩, k⟩ => by
  subst e
  obtain ⟨v1, vs, rfl, r1, e⟩ := v
  rw [show vs = [] from e]
  obtain ⟨a, ys, rfl, h3, h4⟩ := h1.to X.K m r1
  exact ⟨a, ys, rfl, h3, fun l hl => k _ _ (lft_new m h4 hl h2)⟩
/-- str(n) -/
def fStrI : FN := fun ds μ Q => match ds with
  | [.int i] => i.natAbs.log2 < 1920 ∧ Q (.str (toString i)) μ
  | _ => False
theorem cd_str : CallR X (.type "str") (upFN fStrI) := CallR.of call_str_int fun xs H Q ⟨ds, μ, QD, v, m, h, k⟩ => by
  unfold fStrI at h
  split at h
  · rename_i i
    obtain ⟨v1, vs, rfl, r1, e⟩ := v
    rw [show vs = [] from e, show v1 = V.int i from r1]
    exact ⟨i, rfl, h.1, k _ _ (lft_mk (d := .str _) m rfl h.2)⟩
  · exact h.elim
/-! ### repr -/
def fRepr : FN := fun ds μ Q => ∃ d p, ds = [d] ∧ Rs μ d p ∧ p.showable = true ∧ p.depth ≤ 60 ∧ p.shown.length ≤ sizeLine ∧ Q (.str p.shown) μ
theorem hasDict_plain : ∀ (p : PyData), p.plain = true → p.hasDict = false := fun p h => by
  have key : ∀ n (p : PyData), sizeOf p ≤ n → p.plain = true → p.hasDict = false := by
    intro n
    induction n with
    | zero => intro p hp; cases p <;> simp at hp
    | succ n ih =>
      intro p hp h
      have all : ∀ xs : List PyData, sizeOf xs ≤ n → PyData.plainAll xs = true → PyData.hasDictAll xs = false := by
        intro xs
        induction xs with
        | nil => intro _ _; rfl
        | cons x xs ihx =>
          intro hs hq
          simp only [PyData.plainAll, Bool.and_eq_true] at hq
          simp only [List.cons.sizeOf_spec] at hs
          simp only [PyData.hasDictAll, ih x (by omega) hq.1, ihx (by omega) hq.2, Bool.or_self]
      cases p with
      | list xs =>
        simp only [PyData.plain] at h
        simp only [PyData.list.sizeOf_spec] at hp
        simp only [PyData.hasDict]
        exact all xs (by omega) h
      | tuple xs =>
        simp only [PyData.plain] at h
        simp only [PyData.tuple.sizeOf_spec] at hp
        simp only [PyData.hasDict]
        exact all xs (by omega) h
      | dict _ => cases h
      | _ => rfl
  exact key _ p (Nat.le_refl _) h
theorem cd_repr (hg : X.A.guards = some []) (hu : X.A.units + 65 < cLine) : CallR X (.builtin "repr") (upFN fRepr) := fun pins s σ H xs us Q I rx ⟨ds, μ, QD, v, m, ⟨d, p, e, r, sh, dp, sz, hq⟩, k⟩ => by
  subst e
  obtain ⟨v1, vs, rfl, r1, e⟩ := v
  rw [show vs = [] from e] at rx
  obtain ⟨u, rfl, ru⟩ := vals1 rx
  have fin : ∀ (h' : Heap) (tk : Nat) (t : Tok), (∀ b o, s.heap.get? b = some o → h'.get? b = some o) → EP X pins σ Q (.str p.shown t) { s with heap := h', toks := tk } := fun h' tk t hk => ⟨.str p.shown, H, I.kept (t' := tk) hk, ⟨t, rfl⟩, k _ _ (lft_mk (d := .str _) m rfl hq)⟩
  cases p with
  | none =>
    cases r
    rw [show v1 = V.non from r1] at ru
    rw [show u = Value.none from ru]
    exact PySem.P.repr_of_none (fin s.heap _ _ fun _ _ q => q)
  | bool b =>
    cases r
    rw [show v1 = V.bl b from r1] at ru
    rw [show u = Value.bool b from ru]
    have q := fin s.heap (s.toks + 1) s.toks fun _ _ q => q
    exact PySem.P.repr_of_bool (by simpa only [PyData.shown] using q)
  | int i =>
    cases r
    rw [show v1 = V.int i from r1] at ru
    obtain ⟨t, rfl⟩ := ru
    exact PySem.P.repr_of_int (by simpa [PyData.showable] using sh) (fin s.heap _ _ fun _ _ q => q)
  | str x =>
    cases r
    rw [show v1 = V.str x from r1] at ru
    obtain ⟨t, rfl⟩ := ru
    have q := fin s.heap (s.toks + 1) s.toks fun _ _ q => q
    exact PySem.P.repr_of_str (by simpa only [PyData.shown] using q) (hsz := by simpa only [PyData.shown] using sz)
  | list ps =>
    obtain ⟨as, hr⟩ := Dp.reads I (.list ps) v1 u (Rs.dp m _ d v1 r r1) ru
    have hp := hasDict_plain _ (r.plain _ d)
    cases hr with
    | list a1 a2 a3 a4 => exact repr_of_reads' (.list a1 a2 a3 a4) sh (fun z => by rw [hp] at z; cases z) hg (by omega) (fun _ _ q => q) (fun h' t tk hk => fin h' tk t hk) sz
  | tuple ps =>
    obtain ⟨as, hr⟩ := Dp.reads I (.tuple ps) v1 u (Rs.dp m _ d v1 r r1) ru
    have hp := hasDict_plain _ (r.plain _ d)
    cases hr with
    | tuple a1 a2 a3 a4 => exact repr_of_reads' (.tuple a1 a2 a3 a4) sh (fun z => by rw [hp] at z; cases z) hg (by omega) (fun _ _ q => q) (fun h' t tk hk => fin h' tk t hk) sz
  | dict _ => cases r
end
end Dl

namespace Dl
open PySem PySem.Spec PyProof.Rows L2
variable {B : Bs}
/-! ### methods of lists -/
/-- o.m(..), o a list -/
def wML (r : D → FN) (o : WE) (a : WA) : WE := fun ρ μ Q => o ρ μ fun d μ1 => (∃ zs, Ls μ1 d zs) ∧ a ρ μ1 fun ds μ2 => r d ds μ2 Q
section
variable {X : Cx} {o e : Expr} {es : List Expr} {wo : WE} {a : WA} {name : Str} {apos cpos : Pos} {id : String} {r : D → FN}
theorem Ls.ty {K : Frg} {μ : Mu} {H : Hp} {d : D} {v : V} (m : MH μ H) (hv : VD (MD μ) H d v) (h : ∃ zs, Ls μ d zs) : tyV K "list" v H := by
  obtain ⟨zs, h⟩ := h
  obtain ⟨p, xs, rfl, e, _⟩ := h.to m hv
  exact .inl ⟨rfl, xs, SqL.of e⟩
theorem je_ml (slot : Slot "list" name id) (hty : typeOf (.builtin id) = pure (.type "method_descriptor")) (hm : MtR X id (upFM r)) (ho : JE B X o wo) (ha : JA B X (e :: es) a)
    (hbase : attributeBase o name X.env (eval o X.env) = eval o X.env := by rfl)
    (hfew : ((backTo cpos (starEach (e :: es) X.env)).all (fun x => !x.1) && (backToKw cpos (keywordEach [] X.env)).all (fun x => x.1.isSome)
      && decide ((e :: es).length + ([] : List Keyword).length + (if ([] : List Keyword).isEmpty then 0 else 1) < 30)) = true := by rfl)
    (hline : (apos.endLine == cpos.line) = true := by rfl) (hs : starEach (e :: es) X.env = (false, eval e X.env) :: starEach es X.env := by rfl) (hplain : (backTo cpos (starEach es X.env)).any (·.1) = false := by rfl) :
    JE B X (.Call (.Attribute o name apos) (e :: es) [] cpos) (wML r wo a) := PE.of (pe_bm PySem.F.plainAttrs_list slot hty hm ho ha hbase hfew hline hs hplain) fun σ H Q ⟨ρ, μ, QD, rs, m, h, k⟩ =>
  up_mk rs m h fun v H1 d μ1 s1 m1 v1 h1 => ⟨Ls.ty m1 v1 h1.1, ρ, μ1, _, rs.step s1, m1, h1.2, fun vs H2 ds μ2 s2 m2 v2 h2 => ⟨d, ds, μ2, QD, VD.step s2 _ _ v1, v2, m2, h2, fun z H3 q => k z H3 (q.trans (s1.trans s2))⟩⟩
theorem je_ml0 (slot : Slot "list" name id) (hty : typeOf (.builtin id) = pure (.type "method_descriptor")) (hm : MtR X id (upFM r)) (ho : JE B X o wo)
    (hbase : attributeBase o name X.env (eval o X.env) = eval o X.env := by rfl) (hline : (apos.endLine == cpos.line) = true := by rfl) : JE B X (.Call (.Attribute o name apos) [] [] cpos) (wML r wo wNil) :=
  PE.of (pe_bm0 PySem.F.plainAttrs_list slot hty hm ho hbase hline) fun σ H Q ⟨ρ, μ, QD, rs, m, h, k⟩ =>
  up_mk rs m h fun v H1 d μ1 s1 m1 v1 h1 => ⟨Ls.ty m1 v1 h1.1, d, [], μ1, QD, v1, rfl, m1, h1.2, fun z H3 q => k z H3 (q.trans s1)⟩
/-- the list at l becomes ys -/
theorem lft_set {μ : Mu} {H : Hp} {Q : DQ} {l : Addr} {ds : List D} {xs : List V} {d : D} {v : V} {zs : List D} (m : MH μ H) (hl : μ l = some (.lst zs)) (hv : VDs (MD μ) H ds xs) (hd : VD (MD μ) H d v) (q : Q d (put μ l (.lst ds))) : lft μ H Q v (upd H l (.lst xs)) := by
  have st : Step (MD μ) H (MD (put μ l (.lst ds))) (upd H l (.lst xs)) := .write ⟨_, hl⟩
  exact ⟨d, _, st, m.write ⟨_, hl⟩ ⟨_, upd_same, VDs.step st _ _ hv⟩, VD.step st _ _ hd, q⟩
def fAppend : D → FN := fun d ds μ Q => ∃ l xs y, d = .at l ∧ ds = [y] ∧ μ l = some (.lst xs) ∧ xs.length ≤ 1000000 ∧ Q .non (put μ l (.lst (xs ++ [y])))
theorem md_append : MtR X "list.append" (upFM fAppend) := MtR.of mt_append fun x vs H Q ⟨d, ds, μ, QD, v1, v2, m, ⟨l, xs, y, e1, e2, h1, h2, h3⟩, k⟩ => by
  subst e1 e2
  obtain ⟨u, us, rfl, r1, e⟩ := v2
  rw [show us = [] from e]
  obtain ⟨zs, e3, g⟩ := m l _ h1
  exact ⟨l, zs, u, v1, rfl, e3, by rw [← g.length, sizeLine_eq]; omega, k _ _ (lft_set m h1 (g.append (es := [y]) ⟨u, [], rfl, r1, rfl⟩) (show VD _ _ .non .non from rfl) h3)⟩
def fExtend : D → FN := fun d ds μ Q => ∃ l xs e ys, d = .at l ∧ ds = [e] ∧ μ l = some (.lst xs) ∧ Ls μ e ys ∧ xs.length + ys.length ≤ 1000000 ∧ Q .non (put μ l (.lst (xs ++ ys)))
theorem md_extend : MtR X "list.extend" (upFM fExtend) := MtR.of mt_extend fun x vs H Q ⟨d, ds, μ, QD, v1, v2, m, ⟨l, xs, e, ys, e1, e2, h1, h2, h3, h4⟩, k⟩ => by
  subst e1 e2
  obtain ⟨u, us, rfl, r1, e0⟩ := v2
  rw [show us = [] from e0]
  obtain ⟨zs, e3, g⟩ := m l _ h1
  obtain ⟨b, ws, rfl, e4, g4⟩ := h2.to m r1
  exact ⟨l, b, zs, ws, v1, rfl, e3, e4, by rw [← g.length, ← g4.length, sizeLine_eq]; omega, k _ _ (lft_set m h1 (g.append g4) (show VD _ _ .non .non from rfl) h4)⟩
def fReverse : D → FN := fun d ds μ Q => ∃ l xs, d = .at l ∧ ds = [] ∧ μ l = some (.lst xs) ∧ Q .non (put μ l (.lst xs.reverse))
theorem md_reverse : MtR X "list.reverse" (upFM fReverse) := MtR.of mt_reverse fun x vs H Q ⟨d, ds, μ, QD, v1, v2, m, ⟨l, xs, e1, e2, h1, h3⟩, k⟩ => by
  subst e1 e2
  obtain ⟨zs, e3, g⟩ := m l _ h1
  exact ⟨l, zs, v1, v2, e3, k _ _ (lft_set m h1 g.reverse (show VD _ _ .non .non from rfl) h3)⟩
/-- xs.pop(i) -/
def fPopAt : D → FN := fun d ds μ Q => ∃ l xs i k y, d = .at l ∧ ds = [.int i] ∧ μ l = some (.lst xs) ∧ 0 ≤ i ∧ i = ((k : Nat) : Int) ∧ i < 2 ^ 62 ∧ xs[k]? = some y ∧ Q y (put μ l (.lst (xs.eraseIdx k)))
theorem VDs.eraseIdx {M : Ms} {H : Hp} : ∀ {ds : List D} {vs : List V} (i : Nat), VDs M H ds vs → VDs M H (ds.eraseIdx i) (vs.eraseIdx i)
  | [], _, _, h => by rw [show _ = [] from h]; rfl
  | d :: ds, _, 0, ⟨v, vs, e, r, t⟩ => by subst e; exact t
  | d :: ds, _, i + 1, ⟨v, vs, e, r, t⟩ => by subst e; exact ⟨v, _, rfl, r, VDs.eraseIdx i t⟩
theorem md_popAt : MtR X "list.pop" (upFM fPopAt) := MtR.of mt_popAt fun x vs H Q ⟨d, ds, μ, QD, v1, v2, m, ⟨l, xs, i, k, y, e1, e2, h1, h2, h3, h4, h5, h6⟩, kk⟩ => by
  subst e1 e2
  obtain ⟨u, us, rfl, r1, e0⟩ := v2
  rw [show us = [] from e0, show u = V.int i from r1]
  obtain ⟨zs, e3, g⟩ := m l _ h1
  obtain ⟨w, e5, hw⟩ := g.get h5
  have hk : k < zs.length := (List.getElem?_eq_some_iff.mp e5).1
  refine ⟨l, zs, i, k, w, v1, rfl, e3, by omega, by omega, ?_, e5, kk _ _ (lft_set m h1 (g.eraseIdx k) hw h6)⟩
  have q : atI zs i = some w := by rw [h3]; exact atI_nat e5
  obtain ⟨j, hj, hj2, _⟩ := atI_get q
  rw [hj]
  unfold seqIndex? at hj
  have : j = k := by
    split at hj <;> simp at hj <;> omega
  rw [this]
/-- xs.insert(i, y) -/
def fInsert : D → FN := fun d ds μ Q => ∃ l xs i y, d = .at l ∧ ds = [.int i, y] ∧ μ l = some (.lst xs) ∧ xs.length ≤ 1000000 ∧ 0 ≤ i ∧ i < 2 ^ 62 ∧ Q .non (put μ l (.lst (xs.take i.toNat ++ [y] ++ xs.drop i.toNat)))
theorem md_insert : MtR X "list.insert" (upFM fInsert) := MtR.of mt_insert fun x vs H Q ⟨d, ds, μ, QD, v1, v2, m, ⟨l, xs, i, y, e1, e2, h1, h2, h3, h4, h5⟩, kk⟩ => by
  subst e1 e2
  obtain ⟨u, us, rfl, r1, u2, us2, rfl, r2, e0⟩ := v2
  rw [show us2 = [] from e0, show u = V.int i from r1]
  obtain ⟨zs, e3, g⟩ := m l _ h1
  exact ⟨l, zs, i, u2, v1, rfl, e3, by rw [← g.length, sizeLine_eq]; omega, h3, by omega, kk _ _ (lft_set m h1 (((g.take _).append (es := [y]) ⟨u2, [], rfl, r2, rfl⟩).append (g.drop _)) (show VD _ _ .non .non from rfl) h5)⟩

/-! ### slices of lists -/
abbrev WO := Rho → Mu → (Option Int → Mu → Prop) → Prop
def upO (B : Bs) (w : WO) : TO := fun σ H Q => ∃ ρ μ QD, RS B (MD μ) H ρ σ ∧ MH μ H ∧ w ρ μ QD ∧ ∀ o H' μ', Step (MD μ) H (MD μ') H' → MH μ' H' → QD o μ' → Q o H'
abbrev JO (B : Bs) (X : Cx) (e : Option Expr) (w : WO) : Prop := PO X e (upO B w)
theorem PO.of {e : Option Expr} {t t' : TO} (h : PO X e t) (g : ∀ σ H Q, t' σ H Q → t σ H Q) : PO X e t' := ⟨fun pins s σ H Q I q => h.run pins s σ H Q I (g σ H Q q)⟩
def wNoPart : WO := fun _ μ Q => Q none μ
def wPart (a : WE) : WO := fun ρ μ Q => a ρ μ fun d μ1 => match d with
  | .int i => Q (some i) μ1
  | _ => False
theorem jo_none : JO B X none wNoPart := PO.of po_none fun σ H Q ⟨ρ, μ, QD, rs, m, h, k⟩ => k none H μ .refl m h
theorem jo_some {w : WE} (h : JE B X e w) : JO B X (some e) (wPart w) := PO.of (po_some h) fun σ H Q ⟨ρ, μ, QD, rs, m, h, k⟩ => up_mk rs m h fun v H1 d μ1 s1 m1 v1 h1 => by
  split at h1
  · rename_i i
    exact ⟨i, v1, k _ _ _ s1 m1 h1⟩
  · exact h1.elim
def cutD (xs : List D) (lo hi : Option Int) : List D := (xs.drop (HT.sIx xs.length 0 lo)).take (HT.sIx xs.length xs.length hi - HT.sIx xs.length 0 lo)
theorem VDs.cut {M : Ms} {H : Hp} {ds : List D} {vs : List V} (h : VDs M H ds vs) (lo hi : Option Int) : VDs M H (cutD ds lo hi) (cutV vs lo hi) := by
  unfold cutD cutV
  rw [← h.length]
  exact (h.drop _).take _
/-- xs[lo:hi], a new list -/
def wSl (mm : Bool) (o : WE) (lo hi : WO) : WE := fun ρ μ Q => o ρ μ fun d μ1 => lo ρ μ1 fun l μ2 => hi ρ μ2 fun h μ3 => ∃ xs, Lr μ3 d xs ∧ New mm (cutD xs l h) μ3 Q
theorem je_slice (mm : Bool) {lo hi : Option Expr} {p2 pos : Pos} {wl wh : WO} (he : JE B X o wo) (hl : JO B X lo wl) (hh : JO B X hi wh) : JE B X (.Subscript o (.Slice lo hi none p2) pos) (wSl mm wo wl wh) := PE.of (pe_slice sl_list he hl hh) fun σ H Q ⟨ρ, μ, QD, rs, m, h, k⟩ =>
  up_mk rs m h fun v H1 d μ1 s1 m1 v1 h1 => ⟨ρ, μ1, _, rs.step s1, m1, h1, fun l H2 μ2 s2 m2 h2 => ⟨ρ, μ2, _, (rs.step s1).step s2, m2, h2, fun u H3 μ3 s3 m3 ⟨xs, h3, h4⟩ => by
    obtain ⟨a, ys, rfl, e, g⟩ := h3.to m3 (VD.step (s2.trans s3) _ _ v1)
    exact ⟨a, ys, rfl, .inl e, fun p hp => k _ _ ((lft_new m3 (g.cut l u) hp h4).trans ((s1.trans s2).trans s3))⟩⟩⟩
/-- list(range(n)) -/
def wLstRg (mm : Bool) (a : WE) : WE := fun ρ μ Q => a ρ μ fun d μ1 => match d with
  | .int n => 0 ≤ n ∧ n ≤ 1000000 ∧ New mm ((List.range n.toNat).map fun i : Nat => .int i) μ1 Q
  | _ => False
theorem VDs.rg {M : Ms} {H : Hp} : ∀ n : Nat, VDs M H ((List.range n).map fun i : Nat => (.int i : D)) ((List.range n).map fun i : Nat => V.int (0 + (i : Int)))
  | 0 => rfl
  | n + 1 => by
    rw [List.range_succ, List.map_append, List.map_append]
    exact (VDs.rg n).append ⟨_, _, rfl, show V.int (0 + (n : Int)) = V.int (n : Int) by rw [Int.zero_add], rfl⟩
theorem je_listRg (mm : Bool) {p pos p2 pos2 : Pos} {w : WE} (hm : X.mg "list" = none) (hm2 : X.mg "range" = none) (ha : JE B X e w) (hc : X.calm = true := by rfl) (hg : Gl X "list" := by rfl) (hg2 : Gl X "range" := by rfl)
    (na2 : starEach [e] X.env = (false, eval e X.env) :: starEach [] X.env := by rfl) (na : starEach [.Call (.Name "range" p2) [e] [] pos2] X.env = (false, eval (.Call (.Name "range" p2) [e] [] pos2) X.env) :: starEach [] X.env := by rfl) :
    JE B X (.Call (.Name "list" p) [.Call (.Name "range" p2) [e] [] pos2] [] pos) (wLstRg mm w) := PE.of (pe_listRg hc hg hm (prg_1 hg2 hm2 ha na2) na) fun σ H Q ⟨ρ, μ, QD, rs, m, h, k⟩ =>
  up_mk rs m h fun v H1 d μ1 s1 m1 v1 h1 => by
    split at h1
    · rename_i n
      refine ⟨n, v1, .of_le (by omega) (by omega) (by omega) (by omega), fun q hq => k _ _ ((lft_new m1 ?_ hq h1.2.2).trans s1)⟩
      show VDs _ _ _ ((List.range (n - 0).toNat).map _)
      rw [Int.sub_zero]
      exact VDs.rg n.toNat
    · exact h1.elim
/-! ### zip, enumerate walked -/
def wZip (a : WA) : WI := fun ρ μ Q => a ρ μ fun vs μ1 => ∃ d e xs ys, vs = [d, e] ∧ Lr μ1 d xs ∧ Lr μ1 e ys ∧ xs.length = ys.length ∧ Q (List.zipWith (fun x y => .tup [x, y]) xs ys) (fun μ => Lr μ d xs ∧ Lr μ e ys) μ1
theorem ji_zip {e2 : Expr} {p pos tpos : Pos} {elts : List Expr} {kk : Nat} (hm : X.mg "zip" = none) (ha : JA B X [e, e2] a) (hg : Gl X "zip" := by rfl)
    (hs : starEach [e, e2] X.env = (false, eval e X.env) :: starEach [e2] X.env := by rfl) (hpl : (backTo pos (starEach [e2] X.env)).any (·.1) = false := by rfl) : JI B X (.Tuple elts kk tpos) (.Call (.Name "zip" p) [e, e2] [] pos) (wZip a) :=
  PI.of (pi_zip hg hm ha hs hpl) fun σ H R ⟨ρ, μ, QD, rs, m, h, k⟩ => ⟨ρ, μ, _, rs, m, h, fun vs H1 ds μ1 s1 m1 v1 ⟨d, e, xs, ys, ed, h1, h2, hl, h3⟩ => by
    subst ed
    obtain ⟨v, ws, rfl, r1, v2, ws2, rfl, r2, e0⟩ := v1
    rw [show ws2 = [] from e0]
    obtain ⟨a1, vx, rfl, e1, g1⟩ := h1.to m1 r1
    obtain ⟨a2, vy, rfl, e2, g2⟩ := h2.to m1 r2
    have hat : ∀ μ H2, Step (MD μ1) H1 (MD μ) H2 → MH μ H2 → (Lr μ d xs ∧ Lr μ e ys) → ∃ zx zy, SqL X.K H2 a1 zx ∧ SqL X.K H2 a2 zy ∧ VDs (MD μ) H2 xs zx ∧ VDs (MD μ) H2 ys zy := fun μ H2 st mh kp => by
      obtain ⟨b1, zx, eb, rb, gb⟩ := kp.1.to mh (VD.step st _ _ r1)
      obtain ⟨b2, zy, eb2, rb2, gb2⟩ := kp.2.to mh (VD.step st _ _ r2)
      cases eb
      cases eb2
      exact ⟨zx, zy, .inl rb, .inl rb2, gb, gb2⟩
    refine ⟨a1, a2, vx, vy, rfl, .inl e1, .inl e2, k _ H1 _ (fun μ => Lr μ d xs ∧ Lr μ e ys) μ1 s1 m1 ⟨fun i H2 hi ⟨μ, st, mh, kp⟩ => ?_, fun H2 ⟨μ, st, mh, kp⟩ => ?_, fun i H2 x H' hi _ ⟨T, x1, y1, ex, hT, e3, q1, q2⟩ μ st mh kp => ?_⟩ h3⟩
    · obtain ⟨zx, zy, l1, l2, w1, w2⟩ := hat μ H2 st mh kp
      have hi1 : i < xs.length := by simp at hi; omega
      have hi2 : i < ys.length := by omega
      obtain ⟨x1, q1, _⟩ := w1.get (List.getElem?_eq_getElem hi1)
      obtain ⟨y1, q2, _⟩ := w2.get (List.getElem?_eq_getElem hi2)
      exact ⟨zx, zy, x1, y1, l1, l2, q1, q2⟩
    · obtain ⟨zx, zy, l1, l2, w1, w2⟩ := hat μ H2 st mh kp
      exact ⟨zx, zy, l1, l2, .inl (by rw [← w1.length]; simp; omega)⟩
    · obtain ⟨zx, zy, l1, l2, w1, w2⟩ := hat μ H2 st mh kp
      have hi1 : i < xs.length := by simp at hi; omega
      have hi2 : i < ys.length := by omega
      have z1 := q1 zx l1
      have z2 := q2 zy l2
      obtain ⟨x2, p1, p2⟩ := w1.get (List.getElem?_eq_getElem hi1)
      obtain ⟨y2, p3, p4⟩ := w2.get (List.getElem?_eq_getElem hi2)
      rw [z1] at p1
      rw [z2] at p3
      cases p1
      cases p3
      subst ex e3
      have st2 : Step (MD μ) H2 (MD μ) (upd H2 T (.tup [x1, y1])) := .new hT
      exact ⟨.tup [xs[i], ys[i]], by rw [List.getElem?_zipWith, List.getElem?_eq_getElem hi1, List.getElem?_eq_getElem hi2], st2, mh.newF hT, ⟨T, _, rfl, ⟨fun ⟨u, q⟩ => (by rw [mh.free hT] at q; cases q), upd_same⟩, _, _, rfl, VD.step st2 _ _ p2, _, _, rfl, VD.step st2 _ _ p4, rfl⟩⟩⟩
end

/-! ### sorted -/
mutual
/-- the data as it reads, where nothing may change in it -/
def pyD : D → PyData
  | .non => .none
  | .bl b => .bool b
  | .int i => .int i
  | .str x => .str x
  | .lst xs => .list (pyDs xs)
  | .tup xs => .tuple (pyDs xs)
  | .ty _ => .none
  | .at _ => .none
def pyDs : List D → List PyData
  | [] => []
  | x :: xs => pyD x :: pyDs xs
end
theorem pyDs_map : ∀ xs : List D, pyDs xs = xs.map pyD
  | [] => rfl
  | x :: xs => by rw [pyDs, pyDs_map xs, List.map_cons]
/-- sorted(xs) of a list -/
def fSorted (mm : Bool) : FN := fun ds μ Q => ∃ d xs, ds = [d] ∧ Lr μ d xs ∧ (∀ x ∈ xs, Rs μ x (pyD x) ∧ (pyD x).depth ≤ 50) ∧ PySem.W.AllAlike (xs.map pyD) ∧ PySem.W.Sortable (xs.map pyD) ∧ xs.length ≤ 1000000 ∧ New mm (xs.mergeSort (PySem.W.dataLe false pyD)) μ Q
section
variable {X : Cx}
theorem each_vals {M : Ms} {H : Hp} : ∀ {out : List Value} {ys : List D}, PySem.W.EachIs (fun u d => ∃ v, RelV v u ∧ VD M H d v) out ys → ∃ vs, Vals vs out ∧ VDs M H ys vs
  | _, _, .nil => ⟨[], .nil, rfl⟩
  | _, _, .cons ⟨v, r, h⟩ t => by
    obtain ⟨vs, r2, h2⟩ := each_vals t
    exact ⟨v :: vs, .cons r r2, v, vs, rfl, h, h2⟩
theorem vals_each {M : Ms} {H : Hp} : ∀ {ds : List D} {vs : List V} {us : List Value}, VDs M H ds vs → Vals vs us → PySem.W.EachIs (fun u d => ∃ v, RelV v u ∧ VD M H d v) us ds
  | [], _, _, h, r => by
    rw [show _ = [] from h] at r
    cases r
    exact .nil
  | d :: ds, _, _, ⟨v, vs, e, h, t⟩, r => by
    subst e
    cases r with
    | cons r1 r2 => exact .cons ⟨v, r1, h⟩ (vals_each t r2)
theorem each_reads {pins : List (Addr × Obj)} {σ : L2.St} {H : Hp} {s : Shared} {μ : Mu} (I : Inv X pins σ H s) (m : MH μ H) : ∀ {ds : List D} {vs : List V} {us : List Value}, (∀ x ∈ ds, Rs μ x (pyD x)) → VDs (MD μ) H ds vs → Vals vs us → PySem.W.EachIs (fun u d => ∃ as, Reads s.heap u (pyD d) as) us ds
  | [], _, _, _, h, r => by
    rw [show _ = [] from h] at r
    cases r
    exact .nil
  | d :: ds, _, _, hr, ⟨v, vs, e, h, t⟩, r => by
    subst e
    cases r with
    | cons r1 r2 => exact .cons (Dp.reads I (pyD d) v _ (Rs.dp m _ d v (hr d List.mem_cons_self) h) r1) (each_reads I m (fun x hx => hr x (List.mem_cons_of_mem _ hx)) t r2)
theorem cd_sorted (mm : Bool) (hu : X.A.units + 65 < cLine) : CallR X (.builtin "sorted") (upFN (fSorted mm)) := fun pins s σ H xs us Q I rx ⟨ds, μ, QD, v, m, ⟨d, ys, e, h1, h2, h3, h4, h5, h6⟩, k⟩ => by
  subst e
  obtain ⟨v1, vs, rfl, r1, e⟩ := v
  rw [show vs = [] from e] at rx
  obtain ⟨u, rfl, ru⟩ := vals1 rx
  obtain ⟨a, zs, rfl, e1, g⟩ := h1.to m r1
  rw [show u = Value.ref a from ru]
  obtain ⟨its, rv, pl, _⟩ := I.list (Or.inl e1)
  refine PySem.W.sorted_data pl.isList (vals_each g rv) (each_reads I m (fun x hx => (h2 x hx).1) g rv) h3 h4 (by rw [sizeLine_eq]; omega) (fun b hb => by have := (h2 b hb).2; omega) fun out hl he => ?_
  obtain ⟨ws, r2, g2⟩ := each_vals he
  obtain ⟨ep, he'⟩ := PyProof.Rows.sortedAll_at s.heap its out.toArray
  have hf := I.hok.fresh (Nat.le_succ s.heap.objs.size)
  refine ⟨.ref _, upd H (s.heap.objs.size + 1) (.lst ws), I.laid (t' := s.toks) (fun _ _ => PyProof.Rows.sortedAll_old) (Nat.le_succ _) ⟨?_, out, ep, r2, he'⟩, rfl, k _ _ (lft_new m g2 hf h6)⟩
  rw [← g2.length, List.length_mergeSort, sizeLine_eq]
  omega
/-- sorted(d) of a dict with tuple keys -/
def keyT (k : List Key) : D := .tup (k.map Dk)
def fSortedT (mm : Bool) : FN := fun ds μ Q => ∃ p kvs, ds = [.at p] ∧ μ p = some (.dT kvs) ∧ (∀ q ∈ kvs, q.1 ≠ []) ∧ PySem.W.AllAlike ((kvs.map fun q => keyT q.1).map pyD) ∧ kvs.length ≤ 1000000 ∧ New mm ((kvs.map fun q => keyT q.1).mergeSort (PySem.W.dataLe false pyD)) μ Q
theorem VDs.dk {M : Ms} {H : Hp} : ∀ ks : List Key, VDs M H (ks.map Dk) (ks.map kV)
  | [] => rfl
  | k :: ks => ⟨_, _, rfl, Dk_v k, VDs.dk ks⟩
theorem Rss.dk {μ : Mu} : ∀ ks : List Key, Rss μ (ks.map Dk) (pyDs (ks.map Dk))
  | [] => .nil
  | k :: ks => .cons (by cases k <;> first | exact .int _ | exact .str _) (Rss.dk ks)
theorem depth_dk : ∀ ks : List Key, PyData.depthAll (pyDs (ks.map Dk)) = 0
  | [] => by simp [pyDs, PyData.depthAll]
  | k :: ks => by
    show PyData.depthAll (pyD (Dk k) :: pyDs (ks.map Dk)) = 0
    rw [PyData.depthAll, depth_dk ks]
    cases k <;> simp [Dk, pyD, PyData.depth]
theorem reads_dk {h : Heap} : ∀ {ks : List Key} {us : List Value}, Vals (ks.map kV) us → ReadsAll h us (pyDs (ks.map Dk)) []
  | [], _, r => by cases r; exact .nil
  | k :: ks, _, r => by
    cases r with
    | cons r1 r2 =>
      have t := reads_dk (h := h) r2
      cases k with
      | inl i =>
        obtain ⟨t1, rfl⟩ := r1
        exact .cons (.int i t1) t
      | inr i =>
        obtain ⟨t1, rfl⟩ := r1
        exact .cons (.str i t1) t
theorem cd_sortedT (mm : Bool) (hc : X.calm = true) (hu : X.A.units + 65 < cLine) : CallR X (.builtin "sorted") (upFN (fSortedT mm)) := fun pins s σ H xs us Q I rx ⟨ds, μ, QD, v, m, ⟨p, kvs, e, h1, h2, h3, h4, h5⟩, k⟩ => by
  subst e
  obtain ⟨v1, vs, rfl, r1, e⟩ := v
  rw [show vs = [] from e] at rx
  obtain ⟨u, rfl, ru⟩ := vals1 rx
  rw [show v1 = V.ref p from r1] at ru
  rw [show u = Value.ref p from ru]
  obtain ⟨ks, e1, kd⟩ := m p _ h1
  obtain ⟨z, hs, xs, pr, o, es, ep, ho, hx, hdt, he, hn⟩ := (show ObjOk X.prog X.w H s.heap p (.dT ks) from I.hok p _ e1)
  have l1 : es.size = xs.length := size_of_entries he
  have l2 : ks.length = xs.length := Paired.length pr
  have l3 := kd.length
  refine Calls.call_function_entry PyProof.Rows.kind_sorted PyProof.Rows.plain_sorted PyProof.Rows.entry_sorted (PyProof.Rows.args_sorted1 _) ?_
  unfold Builtin.«sorted»
  refine wpAny_bind (m := checkCount "sorted" 1 1 _) (wpAny_pure ?_)
  refine wpAny_bind (PySem.W.kdu_collect (A := X.A.in1) (kdl_raw hs hx hdt) (I.ok.hd hc) ho (by rw [sizeLine_eq]; omega) fun h' tk acc hk hacc => ?_)
  have hl : acc.toList.length = xs.length := by rw [Array.length_toList, hacc.1]; exact l1
  refine wpAny_bind (wpAny_newList ?_ (by rw [hl, sizeLine_eq]; omega))
  -- the keys as values
  have at_ : ∀ (j : Nat) (u : Value), acc.toList[j]? = some u → ∃ q : List Key × D, kvs[j]? = some q ∧ ∃ b, u = .ref b ∧ H b = some (.tup (q.1.map kV)) := fun j u hj => by
    obtain ⟨en, hen, hv⟩ := hacc.2 j u (by rw [← Array.getElem?_toList]; exact hj)
    have qe := entry_at he j
    rw [hen] at qe
    cases hb : xs[j]? with
    | none =>
      rw [hb] at qe
      exact nomatch (show some en = none from qe)
    | some b =>
      rw [hb] at qe
      have e2 : en = entryOfKey (tupleKind (mixKind X.prog X.w)) b := Option.some.inj qe
      have hjl : j < kvs.length := by have := (List.getElem?_eq_some_iff.mp hb).1; omega
      have hjk : j < ks.length := by omega
      obtain ⟨w, ew, hw⟩ := kd.get (i := j) (k := kvs[j].1) (d := kvs[j].2) (List.getElem?_eq_getElem hjl)
      have pj : ks[j].1 = b.1 ∧ H b.2.1 = some (.tup (ks[j].1.map kV)) := by
        have get_ : ∀ {l : List (List Key × V)} {l' : List (List Key × Addr × Value)} {j : Nat} {x y}, KT H l l' → l[j]? = some x → l'[j]? = some y → x.1 = y.1 ∧ H y.2.1 = some (.tup (x.1.map kV)) := by
          intro l l' j x y hp
          induction hp generalizing j with
          | nil => intro q; simp at q
          | cons r t ih =>
            intro q1 q2
            cases j with
            | zero =>
              simp only [List.getElem?_cons_zero, Option.some.injEq] at q1 q2
              subst q1 q2
              exact ⟨r.1, r.2.1⟩
            | succ j => exact ih (by simpa using q1) (by simpa using q2)
        exact get_ pr (List.getElem?_eq_getElem hjk) hb
      have ek : ks[j] = (kvs[j].1, w) := by
        rw [List.getElem?_eq_getElem hjk] at ew
        exact Option.some.inj ew
      rw [ek] at pj
      exact ⟨kvs[j], List.getElem?_eq_getElem hjl, b.2.1, by rw [hv, e2]; rfl, pj.2⟩
  have I2 : Inv X pins σ H { s with heap := h', toks := tk } := I.kept (t' := tk) hk
  have each1 : ∀ (l : List Value) (qs : List (List Key × D)), l.length = qs.length → (∀ (j : Nat) (u : Value), l[j]? = some u → ∃ q : List Key × D, qs[j]? = some q ∧ ∃ b, u = .ref b ∧ H b = some (.tup (q.1.map kV))) →
      PySem.W.EachIs (fun u d => ∃ v, RelV v u ∧ VD (MD μ) H d v) l (qs.map fun q => keyT q.1) ∧ PySem.W.EachIs (fun v b => ∃ as, Reads (h'.push (seqObj "list" acc.toList.toArray 0)) v (pyD b) as ∧ h'.objs.size ∉ as) l (qs.map fun q => keyT q.1) := by
    intro l
    induction l with
    | nil =>
      intro qs hq _
      cases qs with
      | nil => exact ⟨.nil, .nil⟩
      | cons _ _ => cases hq
    | cons u l ih =>
      intro qs hq f
      cases qs with
      | nil => cases hq
      | cons q qs =>
        obtain ⟨q', eq', b, rfl, hb⟩ := f 0 u rfl
        cases (show some q = some q' from eq')
        obtain ⟨t1, t2⟩ := ih qs (Nat.succ.inj hq) fun j u hj => f (j + 1) u hj
        obtain ⟨_, its, rv, ob, g1, g2, n, g3⟩ := (show ObjOk X.prog X.w H h' b (.tup (q.1.map kV)) from I2.hok b _ hb)
        refine ⟨.cons ⟨.ref b, rfl, b, _, rfl, ⟨fun ⟨o2, q2⟩ => ?_, hb⟩, VDs.dk q.1⟩ t1, .cons ⟨[], ?_, by simp⟩ t2⟩
        · obtain ⟨w2, w3⟩ : ∃ u, OH (MD μ) H b u := ⟨_, m b _ q2⟩
          cases w2 with
          | lst ds => obtain ⟨x1, x2, _⟩ := w3; rw [hb] at x2; cases x2
          | dK ds => obtain ⟨x1, x2, _⟩ := w3; rw [hb] at x2; cases x2
          | dT ds => obtain ⟨x1, x2, _⟩ := w3; rw [hb] at x2; cases x2
          | ins C fs => obtain ⟨x1, x3, x2, _⟩ := w3; rw [hb] at x2; cases x2
          | ro ds =>
            obtain ⟨x1, x2, _⟩ := w3
            rcases x2 with x2 | ⟨_, x2⟩ <;> (rw [hb] at x2; cases x2)
          | fz a1 a2 a3 => obtain ⟨x2, _⟩ := w3; rw [hb] at x2; cases x2
          | fzT a1 a2 a3 => obtain ⟨x2, _⟩ := w3; rw [hb] at x2; cases x2
          | pot => obtain ⟨x1, x3, x2, _⟩ := w3; rw [hb] at x2; cases x2
        · show Reads _ _ (.tuple (pyDs (q.1.map Dk))) []
          exact .tuple (Heap.get?_push_of_some _ g1) g2 g3 (reads_dk (by simpa using rv))
  obtain ⟨ea, eb⟩ := each1 acc.toList kvs (by omega) at_
  have hat : (h'.push (seqObj "list" acc.toList.toArray 0)).get? h'.objs.size = some (seqObj "list" acc.toList.toArray 0) := Heap.get?_push_size _ rfl
  have sb : PySem.W.Sortable ((kvs.map fun q => keyT q.1).map pyD) := .inl fun d hd => by
    obtain ⟨x, hx, rfl⟩ := List.mem_map.mp hd
    obtain ⟨q, hq, rfl⟩ := List.mem_map.mp hx
    obtain ⟨k0, k1, e0⟩ := List.exists_cons_of_ne_nil (h2 q hq)
    refine ⟨pyD (Dk k0), pyDs (k1.map Dk), ?_⟩
    show PyData.tuple (pyDs (q.1.map Dk)) = _
    rw [e0]
    rfl
  have key := PySem.W.list_sort_data (prog := X.prog) (w := X.w) (A := X.A.in1) (E := X.xe) (s := { s with heap := h'.push (seqObj "list" acc.toList.toArray 0), toks := tk }) (Q := fun _ s' => EP X pins σ Q (.ref h'.objs.size) s') hat ea eb h3 sb (by rw [List.length_map, sizeLine_eq]; omega)
    (fun b hb => by
      obtain ⟨q, hq, rfl⟩ := List.mem_map.mp hb
      show X.A.units + 1 + 1 + (PyData.tuple (pyDs (q.1.map Dk))).depth < cLine
      simp only [PyData.depth, depth_dk]
      omega) fun out hlo heo => by
      obtain ⟨ws, r2, g2⟩ := each_vals heo
      obtain ⟨ep', he'⟩ := PyProof.Rows.sortedHeap_at (out := out.toArray) hat
      have hf := I2.hok.fresh (Nat.le_refl _)
      refine ⟨.ref _, upd H h'.objs.size (.lst ws), I2.laid (t' := tk) (fun b o' e' => ?_) (Nat.le_refl _) ⟨?_, out, ep', r2, he'⟩, rfl, k _ _ (lft_new m g2 hf h5)⟩
      · have hb : b < h'.objs.size := Heap.lt_size e'
        rw [PyProof.Rows.sortedHeap_old (Nat.ne_of_lt hb) (by rw [Heap.size_push]; exact Nat.lt_succ_of_lt hb)]
        exact Heap.get?_push_of_some _ e'
      · rw [← g2.length, List.length_mergeSort, List.length_map, sizeLine_eq]
        omega
  refine wpAny_bind (wpAny_holding (wpAny_mono key (fun _ s' x => ?_) fun _ _ e => e))
  exact wpAny_pure ⟨_, rfl, x⟩
end
end Dl

namespace Dl
open PySem PySem.Spec PyProof.Rows L2
variable {B : Bs}
/-! ### an instance's fields -/
def putFD (f : Str) (d : D) : List (Str × D) → List (Str × D)
  | [] => [(f, d)]
  | (g, x) :: r => if g = f then (g, d) :: r else (g, x) :: putFD f d r
theorem KD.putF {M : Ms} {H : Hp} {f : Str} {d : D} {v : V} (hv : VD M H d v) : ∀ {fs : List (Str × D)} {gs : List (Str × V)}, KD M H fs gs → KD M H (putFD f d fs) (L2.putF f v gs)
  | _, _, .nil => .cons ⟨rfl, hv⟩ .nil
  | (g, x) :: fs, (h, y) :: gs, .cons r t => by
    obtain ⟨e, q⟩ := r
    have e' : g = h := e
    subst e'
    show KD M H (if g = f then (g, d) :: fs else (g, x) :: putFD f d fs) (if g = f then (g, v) :: gs else (g, y) :: L2.putF f v gs)
    by_cases c : g = f
    · rw [if_pos c, if_pos c]
      exact .cons ⟨rfl, hv⟩ t
    · rw [if_neg c, if_neg c]
      exact .cons ⟨rfl, q⟩ (KD.putF hv t)
/-- o.f, o an instance of the class at C -/
def wFld (C : Addr) (f : Str) (a : WE) : WE := fun ρ μ Q => a ρ μ fun d μ1 => ∃ p fs e, d = .at p ∧ μ1 p = some (.ins C fs) ∧ fs.lookup f = some e ∧ Q e μ1
def wSetFld (C : Addr) (f : Str) (o v : WE) : WS := fun DD ρ μ => v ρ μ fun e μ1 => o ρ μ1 fun d μ2 => ∃ p fs, d = .at p ∧ μ2 p = some (.ins C fs) ∧ fs.length < 1000 ∧ DD.nx ρ (put μ2 p (.ins C (putFD f e fs)))
def wFldAug (C : Addr) (f : Str) (g : Int → Int → Int) (o v : WE) : WS := fun DD ρ μ => o ρ μ fun d μ1 => ∃ p fs i, d = .at p ∧ μ1 p = some (.ins C fs) ∧ fs.lookup f = some (.int i) ∧
  v ρ μ1 fun e μ2 => ∃ j fs', e = .int j ∧ μ2 p = some (.ins C fs') ∧ fs'.length < 1000 ∧ DD.nx ρ (put μ2 p (.ins C (putFD f (.int (g i j)) fs')))
section
variable {X : Cx} {C : Addr} {e o z : Expr} {f : Str} {pos pos' tpos : Pos} {a b : WE}
theorem je_fld (c : Cls X.K C) (n : NoAttr X.K C f) (he : JE B X e a) (hb : attributeBase e f X.env (eval e X.env) = eval e X.env := by rfl) : JE B X (.Attribute e f pos) (wFld C f a) := PE.of (pe_fld he hb) fun σ H Q ⟨ρ, μ, QD, rs, m, h, k⟩ =>
  up_mk rs m h fun v H1 d μ1 s1 m1 v1 ⟨p, fs, x, ed, hp, hl, q⟩ => by
    subst ed
    obtain ⟨dx, gs, e1, kd⟩ := m1 p _ hp
    obtain ⟨y, hy, vy⟩ := kd.lookup_some hl
    exact ⟨p, C, dx, gs, y, v1, e1, c, n, hy, k _ _ ⟨x, μ1, s1, m1, vy, q⟩⟩
theorem js_fld (c : Cls X.K C) (n : NoAttr X.K C f) (ho : JE B X o a) (hv : JE B X z b) (hs : swapsWith z (some (.Attribute o f pos')) pos.line X.env = pure false := by rfl) : JS B X (.Assign [.Attribute o f pos'] z pos) (wSetFld C f a b) := PS.of (ps_fld ho hv hs) fun E σ H ⟨ρ, μ, DD, rs, m, h, l⟩ =>
  up_mk rs m h fun v H1 x μ1 s1 m1 v1 h1 => up_mk (rs.step s1) m1 h1 fun u H2 d μ2 s2 m2 v2 ⟨p, fs, ed, hp, hl, q⟩ => by
    subst ed
    obtain ⟨dx, gs, e1, kd⟩ := m2 p _ hp
    have st : Step (MD μ2) H2 (MD (put μ2 p (.ins C (putFD f x fs)))) (upd H2 p (.ins C dx (L2.putF f v gs))) := .write ⟨_, hp⟩
    refine ⟨p, C, dx, gs, v2, e1, c, n, by rw [← Paired.length kd]; exact hl, l.nx σ _ ρ _ ((s1.trans s2).trans st) (rs.step ((s1.trans s2).trans st)) (m2.write ⟨_, hp⟩ ⟨dx, _, upd_same, KD.step st (kd.putF (VD.step s2 _ _ v1))⟩) q⟩
theorem js_fldAug {op : Operator} {g : Int → Int → Int} (c : Cls X.K C) (n : NoAttr X.K C f) (hop : InOp X op fun x y H Q => ∃ i j, x = .int i ∧ y = .int j ∧ Q (.int (g i j)) H) (ho : JE B X o a) (hv : JE B X z b) : JS B X (.AugAssign (.Attribute o f tpos) op z pos) (wFldAug C f g a b) := PS.of (ps_fldaug ho hv hop) fun E σ H ⟨ρ, μ, DD, rs, m, h, l⟩ =>
  up_mk rs m h fun v H1 d μ1 s1 m1 v1 ⟨p, fs, i, ed, hp, hl, h1⟩ => by
    subst ed
    obtain ⟨dx, gs, e1, kd⟩ := m1 p _ hp
    obtain ⟨y, hy, vy⟩ := kd.lookup_some hl
    refine ⟨p, C, dx, gs, y, v1, e1, c, n, hy, up_mk (rs.step s1) m1 h1 fun u H2 x μ2 s2 m2 v2 ⟨j, fs', ex, hp', hl', q⟩ => ?_⟩
    subst ex
    obtain ⟨dx', gs', e2, kd'⟩ := m2 p _ hp'
    have st : Step (MD μ2) H2 (MD (put μ2 p (.ins C (putFD f (.int (g i j)) fs')))) (upd H2 p (.ins C dx' (L2.putF f (.int (g i j)) gs'))) := .write ⟨_, hp'⟩
    refine ⟨i, j, vy, v2, dx', gs', e2, by rw [← Paired.length kd']; exact hl', l.nx σ _ ρ _ ((s1.trans s2).trans st) (rs.step ((s1.trans s2).trans st)) (m2.write ⟨_, hp'⟩ ⟨dx', _, upd_same, KD.step st (kd'.putF (d := .int (g i j)) (v := .int (g i j)) rfl)⟩) q⟩
theorem js_fldAdd (c : Cls X.K C) (n : NoAttr X.K C f) (ho : JE B X o a) (hv : JE B X z b) : JS B X (.AugAssign (.Attribute o f tpos) .Add z pos) (wFldAug C f (· + ·) a b) := js_fldAug c n in_add ho hv
theorem js_fldSub (c : Cls X.K C) (n : NoAttr X.K C f) (ho : JE B X o a) (hv : JE B X z b) : JS B X (.AugAssign (.Attribute o f tpos) .Sub z pos) (wFldAug C f (· - ·) a b) := js_fldAug c n in_sub ho hv
end
/-! ### len by the text's own __len__ -/
def noX : XD := fun _ _ _ => False
def fLenO (C : Addr) (sp : SpD) : FN := fun ds μ Q => ∃ p fs, ds = [.at p] ∧ μ p = some (.ins C fs) ∧ sp [.at p] μ (fun d μ' => ∃ n : Int, d = .int n ∧ 0 ≤ n ∧ n < 2 ^ 63 ∧ Q (.int n) μ') noX
section
variable {X : Cx} {C f : Addr} {fd : FuncData} {ps : List Str} {sp : SpD} {k : Nat}
theorem cd_lenO (F : FnG X.prog X.w X.K X.mg X.base k f fd ps sp) (hr : Room (k + 1) X.A) (hg : X.A.guards = some []) (tk : Takes X fun _ _ _ _ => False) (hb : KBd X.K fd ps 1 [] fun ds _ => ds) (hs : PySem.W.findIn X.K (.ref C) "__len__" = some (some (.ref f))) (hf : PySem.W.isFn X.K (.ref f) = true) :
    CallR X (.builtin "len") (upFN (fLenO C sp)) := fun pins s σ H xs us Q I rx ⟨ds, μ, QD, v, m, ⟨p, fs, e, hp, hsp⟩, kk⟩ => by
  subst e
  obtain ⟨v1, vs, rfl, r1, e2⟩ := v
  rw [show vs = [] from e2, show v1 = V.ref p from r1] at rx
  cases rx with
  | cons q1 q2 =>
    cases q2
    cases q1
    obtain ⟨dx, gs, e1, kd⟩ := m p _ hp
    obtain ⟨mA, J, _⟩ := ins_get I.hok e1
    obtain ⟨od, J, _⟩ := J.look
    obtain ⟨mm, hF⟩ := I.fr
    refine PySem.W.len_K hF I.ok.mod.kin J hs hf ?_
    obtain ⟨zs, hbd, hrel⟩ := hb.to s [.ref p] [] I.kIn rfl rfl
    obtain ⟨ys, ry, vy⟩ := hrel (MD μ) H [.at p] [] [.ref p] [] ⟨_, _, rfl, rfl, rfl⟩ rfl (.cons rfl .nil) .nil
    refine wpAny_call (codeAny_mono (F.run X.A.in1 X.stack s H ⟨[.ref p], []⟩ zs ys (fun v H' => ∃ n : Int, v = .int n ∧ 0 ≤ n ∧ n < 2 ^ 63 ∧ Q (.int n) H') (fun _ _ _ => False) hg hr.in1 I.env0.in1 hbd ry
      ⟨_, μ, _, _, vy, m, hsp, ?_, fun cls d H' ⟨_, _, _, _, _, z⟩ => z⟩) fun r s' hq => ?_)
    · rintro v H' ⟨d, μ', st, m', vd, n, rfl, h1, h2, h3⟩
      exact ⟨n, vd, h1, h2, kk _ _ ⟨.int n, μ', st, m', rfl, h3⟩⟩
    · cases r with
      | error e => exact tk e s' (XE.of_call I (fun cls d H' z => z) hq)
      | ok fl =>
        cases fl with
        | ret u =>
          obtain ⟨v, H', I', rv, n, rfl, h1, h2, h3⟩ := I.after hq
          obtain ⟨t, rfl⟩ := (show ∃ t, u = Value.int n t from rv)
          exact ⟨⟨h1, h2⟩, .int n, H', I'.tok _, ⟨_, rfl⟩, h3⟩
        | next => exact hq.elim
        | brk => exact hq.elim
        | cont => exact hq.elim
end

/-! ### the law's end -/
/-- no list among what the top has made -/
def noLists (K : Frg) : Bool := K.all fun q => match q.2.cls with
  | .type n => !(n == "list")
  | _ => true
theorem noLists_at {K : Frg} (h : noLists K = true) {a : Addr} {o : Obj} (e : K.lookup a = some o) : o.cls ≠ .type "list" := by
  intro z
  have hm : (a, o) ∈ K := by
    clear h
    induction K with
    | nil => cases e
    | cons q K ih =>
      obtain ⟨b, u⟩ := q
      rw [List.lookup_cons] at e
      cases c : (a == b) with
      | true =>
        rw [c] at e
        cases e
        rw [eq_of_beq c]
        exact List.mem_cons_self
      | false =>
        rw [c] at e
        exact List.mem_cons_of_mem _ (ih e)
  have := List.all_eq_true.mp h _ hm
  rw [show (a, o).2.cls = .type "list" from z] at this
  simp at this
def scriptMu (a : Addr) (ns : List Int) : Mu := put (fun _ => none) a (.ro (ns.map .int))
theorem vds_ints {M : Ms} {H : Hp} : ∀ ns : List Int, VDs M H (ns.map .int) (ns.map V.int)
  | [] => rfl
  | n :: ns => ⟨_, _, rfl, rfl, vds_ints ns⟩
theorem law_G {P : Program} {w : World} {K : Frg} {mg mb : Str → Option Value} {k : Nat} {fa a : Addr} {fd : FuncData} {x : Str} {sp : SpD} {s₁ : Shared} {vs : List Value} {ns : List Int}
    (KX : K.In s₁.heap) (hns : s₁.heap.Ns mainGlobals mg) (hb : s₁.heap.Ns builtinsNs mb) (hbb : ∀ x : Str, x ≠ "__name__" → mb x = bootBuiltins x) (hlim : s₁.heap.NoLimit) (hg : s₁.gens = #[])
    (ha : s₁.heap.get? a = some { cls := .type "list", data := .seq vs.toArray }) (hi : IntsAre vs ns) (hl : ns.length ≤ sizeLine) (hr : Room k callerA) (nl : noLists K = true)
    (F : ∀ base : Heap, K.In base → base.Ns mainGlobals mg → FnG P w K mg base k fa fd [x] sp) (hbind : ∀ (s : Shared) (u : Value), BindsTo s fd ⟨[u], []⟩ [(x, u)])
    (hsp : sp [.at a] (scriptMu a ns) (fun d _ => d = .bl true) noX) :
    codeAny (model P w) callerA (.call (.ref fa) ⟨[.ref a], []⟩) (fun r s' => r = .ok (.ret (.bool true)) ∧ OldK s₁.heap s'.heap ∧ s'.os = s₁.os ∧ AllBare s'.gens) s₁ := by
  -- what is tracked: the script alone
  have ha' := ha
  generalize hob : ({ cls := .type "list", data := .seq vs.toArray } : Obj) = ob at ha
  have hcls : ob.cls = .type "list" := by rw [← hob]
  have hdat : ∃ c, ob.data = .seq vs.toArray c := ⟨_, by rw [← hob]⟩
  let H : Hp := upd (fun _ => none) a (.frz ob (.lst (ns.map V.int)))
  have Ha : H a = some (.frz ob (.lst (ns.map V.int))) := upd_same
  have Hn : ∀ {b : Addr}, b ≠ a → H b = none := fun {b} n => upd_ne n
  have low : ∀ {b : Addr} {o : Obj}, s₁.heap.get? b = some o → b ≠ a → (hidT s₁.heap H).get? b = some o := fun e n => hidT_get e (Hn n)
  have lowNs : ∀ {b : Addr} {m : Str → Option Value}, s₁.heap.Ns b m → (hidT s₁.heap H).Ns b m := fun {b m} ⟨o, es, ep, e, d, r⟩ => ⟨o, es, ep, low e (fun z => by
    subst z
    rw [ha] at e
    cases e
    obtain ⟨c, hd⟩ := hdat
    rw [hd] at d
    cases d), d, r⟩
  have kin : K.In (hidT s₁.heap H) := fun b o e => low (KX b o e) fun z => by
    subst z
    have e2 := KX b o e
    rw [ha] at e2
    cases e2
    exact noLists_at nl e hcls
  have hok : HOk P w H s₁.heap := fun b u e => by
    by_cases z : b = a
    · subst z
      rw [Ha] at e
      cases e
      refine ⟨ha, by rw [List.length_map]; exact hl, vs, _, vals_ints hi, ha'⟩
    · rw [Hn z] at e
      cases e
  have mh : MH (scriptMu a ns) H := fun b u e => by
    by_cases z : b = a
    · subst z
      rw [scriptMu, put_same] at e
      cases e
      exact ⟨ns.map V.int, .inr ⟨ob, Ha⟩, vds_ints ns⟩
    · rw [scriptMu, put_ne z] at e
      cases e
  have e0 : Env0 P w K mg (hidT s₁.heap H) callerA [] s₁ H := ⟨rfl, ⟨kin, lowNs hns, ⟨mb, lowNs hb, hbb⟩, let ⟨mc, h1, h2⟩ := hlim; ⟨mc, lowNs h1, h2⟩⟩, fun b o e => of_hidT e, Nat.le_of_eq (hidT_size _ _), trivial, fun b z => absurd (show b ∈ ([] : List Addr) from z) (by simp), hok, .of_eq hg⟩
  refine codeAny_mono ((F _ kin (lowNs hns)).run callerA [] s₁ H ⟨[.ref a], []⟩ [.ref a] [.ref a] (fun v _ => v = .bl true) (fun _ _ _ => False) rfl hr e0 (hbind s₁ (.ref a)) (.cons rfl .nil)
    ⟨[.at a], scriptMu a ns, fun d _ => d = .bl true, noX, ⟨_, _, rfl, rfl, rfl⟩, mh, hsp, fun v H' ⟨d, μ', _, _, vd, ed⟩ => (by subst ed; exact vd), fun cls d H' ⟨_, _, _, _, _, z⟩ => z⟩) fun r s' h => ?_
  cases r with
  | error e =>
    obtain ⟨_, _, _, _, _, _, _, _, _, _, _, _, z⟩ := h
    exact z.elim
  | ok fl =>
    cases fl with
    | next => exact False.elim h
    | brk => exact False.elim h
    | cont => exact False.elim h
    | ret u =>
      obtain ⟨v, H', os, bare, un, hok', rv, q⟩ := h
      have q' : v = .bl true := q
      subst q'
      obtain rfl : u = Value.bool true := rv
      refine ⟨rfl, OldK.of_keep fun b o e => ?_, os, bare⟩
      by_cases z : b = a
      · subst z
        obtain ⟨e2, _⟩ := hok' b _ (un.frzs b ob _ Ha)
        rw [ha] at e
        cases e
        exact e2
      · exact un.keep b o e (Hn z) (by intro z; exact absurd (show b ∈ ([] : List Addr) from z) (by simp)) (by simp)
/-- the goal that k_head leaves -/
theorem walk_G {l : PySem.W.OpenLaw} {n k : Nat} {q : Program} {loose : List Str} {XP : (Str → Option Value) → Heap → Prop} {YP : World → Heap → Prop} {d : DefRec} {K : Params → Frg} {sp : SpD} {x : Str}
    (hn : l.most = some n) (hn2 : n ≤ sizeLine) (hdf : d.params.defaults = []) (hr : Room k callerA) (hY : ∀ (w : World) (h : Heap), YP w h → (K w.params).In h) (nl : ∀ p, noLists (K p) = true)
    (F : ∀ (w : World) (mg : Str → Option Value) (fa : Addr) (h : Heap), (K w.params).In h → h.Ns mainGlobals mg → mg d.name = some (.ref fa) →
      ∃ fd : FuncData, (∀ (s : Shared) (u : Value), BindsTo s fd ⟨[u], []⟩ [(x, u)]) ∧ ∀ base : Heap, (K w.params).In base → base.Ns mainGlobals mg → FnG l.prog w (K w.params) mg base k fa fd [x] sp)
    (hsp : ∀ (a : Addr) (ns : List Int), ns.length ≤ n → sp [.at a] (scriptMu a ns) (fun d _ => d = .bl true) noX) :
    PySem.W.WalkO q loose XP YP l.row.toRowW d [] (fun f vs => PySem.call f vs) := by
  refine Att.attach_call hn hdf fun w s₀ s₁ mg mb fa o pm cd doc a vs ns G Y ho hd hcd hmg hobj hints hlen hg => ?_
  have KX := hY w _ Y
  obtain ⟨fd, hb, hF⟩ := F w mg fa _ KX G.T.g hmg
  exact law_G KX G.T.g G.T.b G.T.builtins G.T.nolimit hg hobj hints (Nat.le_trans hlen hn2) hr (nl _) hF hb (hsp a ns hlen)
end Dl

namespace Dl
open PySem PySem.Spec PyProof.Rows L2
variable {B : Bs}
/-! ### a pot, opened for a while -/
def shutP (p : Addr) (DD : Ed) : Ed where
  nx := fun ρ μ => ∃ x y, μ p = some (.lst [.int x, .int y]) ∧ PotOk x y ∧ DD.nx ρ (put μ p .pot)
  rt := fun d μ => ∃ x y, μ p = some (.lst [.int x, .int y]) ∧ PotOk x y ∧ DD.rt d (put μ p .pot)
  bk := fun ρ μ => ∃ x y, μ p = some (.lst [.int x, .int y]) ∧ PotOk x y ∧ DD.bk ρ (put μ p .pot)
  ct := fun ρ μ => ∃ x y, μ p = some (.lst [.int x, .int y]) ∧ PotOk x y ∧ DD.ct ρ (put μ p .pot)
def wPot (b : WS) : WS := fun DD ρ μ => ∃ p, μ p = some .pot ∧ ∀ x y, PotOk x y → b (shutP p DD) ρ (put μ p (.lst [.int x, .int y]))
theorem same_step {μ : Mu} {H : Hp} {p : Addr} {o u : O} (e : μ p = some o) : Step (MD μ) H (MD (put μ p u)) H := ⟨fun _ _ _ e => e, fun a ⟨z, q⟩ => by
  by_cases c : a = p
  · subst c
    exact .inl ⟨_, e⟩
  · rw [put_ne c] at q
    exact .inl ⟨_, q⟩⟩
theorem same_mh {μ : Mu} {H : Hp} {p : Addr} {o u : O} (m : MH μ H) (e : μ p = some o) (h : OH (MD (put μ p u)) H p u) : MH (put μ p u) H := fun a z q => by
  by_cases c : a = p
  · subst c
    rw [put_same] at q
    cases q
    exact h
  · rw [put_ne c] at q
    exact (m a z q).step (same_step e) rfl
theorem shut_to {μ : Mu} {H : Hp} {p : Addr} {x y : Int} (m : MH μ H) (e : μ p = some (.lst [.int x, .int y])) (h : PotOk x y) : Step (MD μ) H (MD (put μ p .pot)) H ∧ MH (put μ p .pot) H := by
  refine ⟨same_step e, same_mh m e ?_⟩
  obtain ⟨xs, h1, v, vs, rfl, rx, v2, vs2, rfl, ry, e0⟩ := m p _ e
  rw [show v = V.int x from rx, show v2 = V.int y from ry, show vs2 = [] from e0] at h1
  exact ⟨x, y, h1, h⟩
theorem jss_pot {X : Cx} {st : List Stmt} {b : WS} (h : JSs B X st b) : JSs B X st (wPot b) := PSs.of h fun E σ H ⟨ρ, μ, DD, rs, m, ⟨p, hp, q⟩, l⟩ => by
  obtain ⟨x, y, h1, h2⟩ := m p _ hp
  have st : Step (MD μ) H (MD (put μ p (.lst [.int x, .int y]))) H := same_step hp
  have l1 := l.step st
  refine ⟨ρ, _, _, rs.step st, same_mh m hp ⟨_, h1, _, _, rfl, rfl, _, _, rfl, rfl, rfl⟩, q x y h2, ?_⟩
  refine ⟨fun σ' H' ρ' μ' s r m' ⟨x', y', e1, e2, k⟩ => ?_, fun v H' d μ' s m' r ⟨x', y', e1, e2, k⟩ => ?_, fun σ' H' ρ' μ' s r m' ⟨x', y', e1, e2, k⟩ => ?_, fun σ' H' ρ' μ' s r m' ⟨x', y', e1, e2, k⟩ => ?_⟩
  · obtain ⟨s2, m2⟩ := shut_to m' e1 e2
    exact l1.nx σ' H' ρ' _ (s.trans s2) (r.step s2) m2 k
  · obtain ⟨s2, m2⟩ := shut_to m' e1 e2
    exact l1.rt v H' d _ (s.trans s2) m2 (VD.step s2 _ _ r) k
  · obtain ⟨s2, m2⟩ := shut_to m' e1 e2
    exact l1.bk σ' H' ρ' _ (s.trans s2) (r.step s2) m2 k
  · obtain ⟨s2, m2⟩ := shut_to m' e1 e2
    exact l1.ct σ' H' ρ' _ (s.trans s2) (r.step s2) m2 k
/-! ### defs that may be called -/
abbrev noW : WXD := fun _ _ _ _ => False
theorem tkN {X : Cx} : Takes X (upX B noW) := Takes.imp takes0 fun c d σ H ⟨_, _, _, _, _, _, z⟩ => z
/-- a def of the module -/
structure Def0 (K : Frg) (mg : Str → Option Value) (x : Str) (st : Stmt) : Prop where
  ex : ∃ (f : Addr) (fd : FuncData), Fun K x x st f fd ∧ mg x = some (.ref f)
/-- a method of the class at C (or of one above it) -/
structure Met0 (K : Frg) (C : Addr) (m qual : Str) (st : Stmt) : Prop where
  ex : ∃ (f : Addr) (fd : FuncData), Fun K m qual st f fd ∧ Meth K C m f
structure CalD (P : Program) (w : World) (K : Frg) (mg : Str → Option Value) (base : Heap) (k : Nat) (x : Str) (st : Stmt) (ps : List Str) (sp : SpD) : Prop where
  ex : ∃ (f : Addr) (fd : FuncData), FnG P w K mg base k f fd ps sp ∧ Fun K x x st f fd ∧ mg x = some (.ref f)
structure MetD (P : Program) (w : World) (K : Frg) (mg : Str → Option Value) (base : Heap) (k : Nat) (C : Addr) (m qual : Str) (st : Stmt) (ps : List Str) (sp : SpD) : Prop where
  ex : ∃ (f : Addr) (fd : FuncData), FnG P w K mg base k f fd ps sp ∧ Fun K m qual st f fd ∧ Meth K C m f
/-- a class that may be made under the name x; sp: its __init__ -/
structure MakD (P : Program) (w : World) (K : Frg) (mg : Str → Option Value) (base : Heap) (k : Nat) (x : Str) (C : Addr) (qual : Str) (st : Stmt) (ps : List Str) (sp : SpD) : Prop where
  ex : ∃ (f : Addr) (fd : FuncData), FnG P w K mg base k f fd ps sp ∧ Fun K "__init__" qual st f fd ∧ Mk K C f ∧ mg x = some (.ref C)
/-- how written arguments bind: shown by cases -/
def Bd (x qual : Str) (st : Stmt) (ps : List Str) (n : Nat) (ks : List Str) (idx : List Nat) : Prop := ∀ (kV doc pm : Value) (an : Option Addr) (cdv ct : Value) (us ws : List Value), us.length = n → ws.length = ks.length →
  bindArgs (PySem.W.fnOf x qual (defArgs st) (defBody st) (defScope st) .none kV doc pm an cdv ct) ⟨us, ks.zip ws⟩ = pure (ps.zip (us ++ picked ws .none idx))
theorem Bd.to {K : Frg} {x qual : Str} {st : Stmt} {f : Addr} {fd : FuncData} {ps ks : List Str} {n : Nat} {idx : List Nat} (F : Fun K x qual st f fd) (h : Bd x qual st ps n ks idx) : KBd K fd ps n ks (fun ds es => ds ++ picked es .non idx) := by
  obtain ⟨oc, od, kV, doc, pm, an, cdv, ct, osl, rfl, lk, hcd⟩ := F.ex
  exact .kw n idx (h kV doc pm an cdv ct)
section
variable {P : Program} {w : World} {K : Frg} {mg : Str → Option Value} {base : Heap} {k : Nat} {x m qual : Str} {st : Stmt} {N ps : List Str} {sp : SpD} {C : Addr}
/-- the body's side, what every def's theorem shows -/
abbrev BodyOk (P : Program) (w : World) (K : Frg) (mg : Str → Option Value) (base : Heap) (k : Nat) (qual : Str) (st : Stmt) (N : List Str) (sp : SpD) : Prop :=
  ∀ (f : Addr) (cdv : Value) (A : Around) (outer : List Env) (s : Shared) (H : Hp) (EX : XK) (ds : List D) (μ : Mu) (Q : DQ) (E : XD), A.guards = some [] → Room k (A.deeper (envOfC qual (defScope st) s.heap.objs.size f cdv)) →
      Takes (cxOf (L2.CX P w) P w K mg base N qual (defScope st) f cdv A outer s H EX) (upX (MD μ, H) fun cls fs _ μ' => E cls fs μ') →
      PassesOwn (model P w) (A.deeper (envOfC qual (defScope st) s.heap.objs.size f cdv)) (envOfC qual (defScope st) s.heap.objs.size f cdv) (cxOf (L2.CX P w) P w K mg base N qual (defScope st) f cdv A outer s H EX).xe → sp ds μ Q E →
      ∃ b, JSs (MD μ, H) (cxOf (L2.CX P w) P w K mg base N qual (defScope st) f cdv A outer s H EX) (defBody st) b ∧ b { nx := fun _ μ' => wkR Q .non μ', rt := wkR Q } (startD N ds) μ
theorem calD (d : Def0 K mg x st) (S : FnScope N ps (defScope st)) (len : ∀ ds μ Q E, sp ds μ Q E → ds.length = ps.length) (h : BodyOk P w K mg base k x st N sp) : CalD P w K mg base (k + 1) x st ps sp := by
  obtain ⟨f, fd, F, e⟩ := d.ex
  obtain ⟨oc, od, kV, doc, pm, an, cdv, ct, osl, h1, h2, h3⟩ := F.ex
  exact ⟨f, fd, fnD ⟨oc, od, _, kV, doc, pm, an, cdv, ct, osl, h1, h2, h3⟩ S len (h f), F, e⟩
theorem metD (d : Met0 K C m qual st) (S : FnScope N ps (defScope st)) (len : ∀ ds μ Q E, sp ds μ Q E → ds.length = ps.length) (h : BodyOk P w K mg base k qual st N sp) : MetD P w K mg base (k + 1) C m qual st ps sp := by
  obtain ⟨f, fd, F, e⟩ := d.ex
  obtain ⟨oc, od, kV, doc, pm, an, cdv, ct, osl, h1, h2, h3⟩ := F.ex
  exact ⟨f, fd, fnD ⟨oc, od, _, kV, doc, pm, an, cdv, ct, osl, h1, h2, h3⟩ S len (h f), F, e⟩
theorem makD (d : ∃ (f : Addr) (fd : FuncData), Fun K "__init__" qual st f fd ∧ Mk K C f ∧ mg x = some (.ref C)) (S : FnScope N ps (defScope st)) (len : ∀ ds μ Q E, sp ds μ Q E → ds.length = ps.length) (h : BodyOk P w K mg base k qual st N sp) : MakD P w K mg base (k + 1) x C qual st ps sp := by
  obtain ⟨f, fd, F, e⟩ := d
  obtain ⟨oc, od, kV, doc, pm, an, cdv, ct, osl, h1, h2, h3⟩ := F.ex
  exact ⟨f, fd, fnD ⟨oc, od, _, kV, doc, pm, an, cdv, ct, osl, h1, h2, h3⟩ S len (h f), F, e⟩
theorem CalD.mono {j : Nat} (c : CalD P w K mg base j x st ps sp) (h : j ≤ k) : CalD P w K mg base k x st ps sp := let ⟨f, fd, F, e⟩ := c.ex; ⟨f, fd, F.mono h, e⟩
end
section
variable {X : Cx} {k j : Nat} {C : Addr} {x m qual : Str} {st : Stmt} {ps ks : List Str} {sp : SpD} {n : Nat} {idx : List Nat} {p pos apos : Pos} {e o : Expr} {es : List Expr} {kws : List Keyword} {t : WCl} {wo : WE} {W : WXD}
def gP (idx : List Nat) (ds es : List D) : List D := ds ++ picked es .non idx
/-- the rules for calls, by what is known of the def -/
theorem jf (c : CalD X.prog X.w X.K X.mg X.base k x st ps sp) (hr : Room j X.A) (hk : k ≤ j) (hg : X.A.guards = some []) (tk : Takes X (upX B W)) (hb : Bd x x st ps n ks idx) (ha : JCl B X es kws ks t) (hgl : Gl X x := by rfl) (hdb : (x == ("__debug__" : Str)) = false := by decide) :
    JE B X (.Call (.Name x p) es kws pos) (wCall n sp (gP idx) W t) := by
  obtain ⟨f, fd, G, F, e⟩ := c.ex
  exact je_call G (hr.mono hk) hg tk e F.kp (hb.to F) ha hgl hdb
theorem jm {pl : Sem Bool} (ho : JE B X o wo) (c : Cls X.K C) (d : MetD X.prog X.w X.K X.mg X.base k C m qual st ps sp) (hr : Room j X.A) (hk : k ≤ j) (hg : X.A.guards = some []) (tk : Takes X (upX B W)) (hb : Bd m qual st ps n ks idx) (ha : JCl B X es kws ks t)
    (ht : eval (.Call (.Attribute o m apos) es kws pos) X.env = (do
      let ov ← eval o X.env
      standAt apos.atName
      let (f, first) ← holding [ov] (getMethod ov m pl)
      callWith pos f first (backTo pos (starEach es X.env)) (backToKw pos (keywordEach kws X.env))) := by rfl) : JE B X (.Call (.Attribute o m apos) es kws pos) (wMeth C m n sp (gP idx) W wo t) := by
  obtain ⟨f, fd, G, F, M⟩ := d.ex
  exact je_meth (pl := pl) ho c M G (hr.mono hk) hg tk (hb.to F) ha ht
theorem jk (d : MakD X.prog X.w X.K X.mg X.base k x C qual st ps sp) (hr : Room j X.A) (hk : k + 1 ≤ j) (hg : X.A.guards = some []) (tk : Takes X (upX B W)) (hb : Bd "__init__" qual st ps n ks idx) (ha : JCl B X es kws ks t) (hgl : Gl X x := by rfl) (hdb : (x == ("__debug__" : Str)) = false := by decide) :
    JE B X (.Call (.Name x p) es kws pos) (wMake C n sp (gP idx) W t) := by
  obtain ⟨f, fd, G, F, M, e⟩ := d.ex
  exact je_make M G (hr.mono hk) hg tk e (hb.to F) ha hgl hdb
/-- len(o), o an instance with a __len__ of its own -/
theorem jlen {a : WA} (d : MetD X.prog X.w X.K X.mg X.base k C "__len__" qual st ["self"] sp) (hr : Room j X.A) (hk : k + 1 ≤ j) (hg : X.A.guards = some []) (hb : Bd "__len__" qual st ["self"] 1 [] []) (hm : X.mg "len" = none) (ha : JA B X [e] a) (hgl : Gl X "len" := by rfl)
    (he : starEach [e] X.env = (false, eval e X.env) :: starEach [] X.env := by rfl) (hpl : (backTo pos (starEach [] X.env)).any (·.1) = false := by rfl) : JE B X (.Call (.Name "len" p) [e] [] pos) (wFN (fLenO C sp) a) := by
  obtain ⟨f, fd, G, F, M⟩ := d.ex
  refine je_cb (cd_lenO G (hr.mono hk) hg takes0 ?_ M.at_ M.fn) hm ha (by decide +kernel) hgl (by decide) (by decide) he hpl
  have h := hb.to F
  exact ⟨fun s us ws a b c => let ⟨zs, h1, h2⟩ := h.to s us ws a b c; ⟨zs, h1, fun M H ds es vs ms p q r t => let ⟨xs, h3, h4⟩ := h2 M H ds es vs ms p q r t; ⟨xs, h3, by simpa [picked] using h4⟩⟩⟩
end
end Dl

namespace Dl
open PySem PySem.Spec PyProof.Rows L2
variable {B : Bs}
theorem rooms {k : Nat} {A : Around} (r : Room k A) : A.units + 65 < cLine ∧ A.units + 1 < cLine ∧ A.units + 2 < cLine := by
  have := r.un
  exact ⟨by omega, by omega, by omega⟩
/-! ### readings, step by step -/
section
variable {ρ : Rho} {μ : Mu} {Q : DQ} {d e : D} {ds es xs ys : List D} {i j : Int} {l p : Addr} {x y : Str} {b c : Bool}
theorem rd_name {k : Nat} (h : ρ[k]? = some (some d)) (q : Q d μ) : wName k ρ μ Q := by
  unfold wName
  rw [h]
  exact q
theorem rd_bl {R : Bool → Prop} (q : R b) : isBl (.bl b) R := q
theorem rd_brT {P R : Prop} (h : c = true) (q : P) : Br c P R := ⟨fun _ => q, fun z => by rw [h] at z; cases z⟩
theorem rd_brF {P R : Prop} (h : c = false) (q : R) : Br c P R := ⟨fun z => (by rw [h] at z; cases z), fun _ => q⟩
theorem rd_br {P R : Prop} (h : c = true → P) (g : c = false → R) : Br c P R := ⟨h, g⟩
theorem rd_brD {T P R : Prop} [Decidable T] (h : T → P) (g : ¬ T → R) : Br (decide T) P R := ⟨fun z => h (of_decide_eq_true z), fun z => g (of_decide_eq_false z)⟩
theorem rd_brDN {T P R : Prop} [Decidable T] (h : T → R) (g : ¬ T → P) : Br (!decide T) P R := ⟨fun z => g (of_decide_eq_false (by simpa using z)), fun z => h (of_decide_eq_true (by simpa using z))⟩
theorem rd_i0 {g : Int → Int → D} (q : Q (g i j) μ) : fI0 g (.int i) (.int j) μ Q := q
theorem rd_ic {C : Int → Int → Prop} {g : Int → Int → D} (h : C i j) (q : Q (g i j) μ) : fI C g (.int i) (.int j) μ Q := ⟨h, q⟩
theorem rd_addi {m : Bool} (q : Q (.int (i + j)) μ) : fAdd m (.int i) (.int j) μ Q := q
theorem rd_adds {m : Bool} (h : x.length + y.length ≤ sizeLine) (q : Q (.str (x ++ y)) μ) : fAdd m (.str x) (.str y) μ Q := ⟨h, q⟩
theorem rd_addll {m : Bool} (h : xs.length + ys.length ≤ sizeLine) (q : New m (xs ++ ys) μ Q) : fAdd m (.lst xs) (.lst ys) μ Q := ⟨xs, ys, rfl, rfl, h, q⟩
theorem rd_addal {m : Bool} (h1 : μ l = some (.lst xs)) (h : xs.length + ys.length ≤ sizeLine) (q : New m (xs ++ ys) μ Q) : fAdd m (.at l) (.lst ys) μ Q := ⟨xs, ys, h1, rfl, h, q⟩
theorem rd_addla {m : Bool} (h1 : μ l = some (.lst ys)) (h : xs.length + ys.length ≤ sizeLine) (q : New m (xs ++ ys) μ Q) : fAdd m (.lst xs) (.at l) μ Q := ⟨xs, ys, rfl, h1, h, q⟩
theorem rd_addaa {m : Bool} (h1 : μ l = some (.lst xs)) (h2 : μ p = some (.lst ys)) (h : xs.length + ys.length ≤ sizeLine) (q : New m (xs ++ ys) μ Q) : fAdd m (.at l) (.at p) μ Q := ⟨xs, ys, h1, h2, h, q⟩
theorem rd_addtt {m : Bool} (h0 : xs ≠ []) (h : xs.length + ys.length ≤ sizeLine) (q : Q (.tup (xs ++ ys)) μ) : fAdd m (.tup xs) (.tup ys) μ Q := ⟨h0, h, q⟩
theorem rd_muli {m : Bool} (h : CMul i j) (q : Q (.int (i * j)) μ) : fMul m (.int i) (.int j) μ Q := ⟨h, q⟩
theorem rd_mull {m : Bool} (h : 0 ≤ j ∧ j < 2 ^ 63 ∧ xs.length * j.toNat ≤ sizeLine) (q : New m (List.replicate j.toNat xs).flatten μ Q) : fMul m (.lst xs) (.int j) μ Q := ⟨xs, rfl, h.1, h.2.1, h.2.2, q⟩
theorem rd_neg (q : Q (.int (-i)) μ) : fNeg (.int i) μ Q := q
theorem rd_isN {n : Bool} (h : (if n then !nonD d else nonD d) = b) (q : Q (.bl b) μ) : fIsN n d .non μ Q := by
  unfold fIsN
  rw [h]
  exact q
theorem rd_eqi {R : Bool → Prop} (q : R (decide (i = j))) : EqQ μ (.int i) (.int j) R := q
theorem rd_eqs {R : Bool → Prop} (q : R (decide (x = y))) : EqQ μ (.str x) (.str y) R := q
theorem rd_eqb {R : Bool → Prop} (q : R (decide (b = c))) : EqQ μ (.bl b) (.bl c) R := q
theorem EqQ.of {R : Bool → Prop} (p q : PyData) (h1 : Rs μ d p) (h2 : Rs μ e q) (h3 : min p.depth q.depth ≤ 60) (h : R (PyData.eqv p q)) : EqQ μ d e R := by
  unfold EqQ
  split
  · cases h1; cases h2
    simp only [PyData.eqv] at h; rw [Bool.beq_eq_decide_eq] at h; exact h
  · cases h1; cases h2
    simp only [PyData.eqv] at h; rw [Bool.beq_eq_decide_eq] at h; exact h
  · cases h1; cases h2
    simp only [PyData.eqv] at h; rw [Bool.beq_eq_decide_eq] at h; exact h
  · exact ⟨p, q, h1, h2, h3, h⟩
theorem rd_ixl {z : D} (h : atI xs i = some z) (q : Q z μ) : fIx (.lst xs) (.int i) μ Q := ⟨xs, z, rfl, h, q⟩
theorem rd_ixt {z : D} (h : atI xs i = some z) (q : Q z μ) : fIx (.tup xs) (.int i) μ Q := ⟨xs, z, rfl, h, q⟩
theorem rd_ixa {z : D} (h1 : μ l = some (.lst xs)) (h : atI xs i = some z) (q : Q z μ) : fIx (.at l) (.int i) μ Q := ⟨xs, z, .inl h1, h, q⟩
theorem rd_ixr {z : D} (h1 : μ l = some (.ro xs)) (h : atI xs i = some z) (q : Q z μ) : fIx (.at l) (.int i) μ Q := ⟨xs, z, .inr h1, h, q⟩
theorem rd_lens (h : x.length ≤ sizeLine) (q : Q (.int x.length) μ) : fLen [.str x] μ Q := ⟨h, q⟩
theorem rd_lenl (q : Q (.int xs.length) μ) : fLen [.lst xs] μ Q := ⟨xs, rfl, q⟩
theorem rd_lent (q : Q (.int xs.length) μ) : fLen [.tup xs] μ Q := ⟨xs, rfl, q⟩
theorem rd_lena (h1 : μ l = some (.lst xs)) (q : Q (.int xs.length) μ) : fLen [.at l] μ Q := ⟨xs, .inl h1, q⟩
theorem rd_lenr (h1 : μ l = some (.ro xs)) (q : Q (.int xs.length) μ) : fLen [.at l] μ Q := ⟨xs, .inr h1, q⟩
theorem rd_abs (q : Q (.int (if i < 0 then -i else i)) μ) : fAbs [.int i] μ Q := q
theorem rd_ii {g : Int → Int → Int} (q : Q (.int (g i j)) μ) : fII g [.int i, .int j] μ Q := q
theorem rd_divmod (h : CDivW i j) (q : Q (.tup [.int (i / j), .int (i % j)]) μ) : fDivmod [.int i, .int j] μ Q := ⟨h, q⟩
theorem rd_isi {n t : String} (k : kindD μ d n) (h : kitB n t = some b) (q : Q (.bl b) μ) : fIsi [d, .ty t] μ Q := ⟨n, b, k, h, q⟩
theorem rd_isiI {t : String} (h : kitB "int" t = some b) (q : Q (.bl b) μ) : fIsi [.int i, .ty t] μ Q := ⟨"int", b, rfl, h, q⟩
theorem rd_isiB {t : String} {c : Bool} (h : kitB "bool" t = some b) (q : Q (.bl b) μ) : fIsi [.bl c, .ty t] μ Q := ⟨"bool", b, rfl, h, q⟩
theorem rd_isiS {t : String} (h : kitB "str" t = some b) (q : Q (.bl b) μ) : fIsi [.str x, .ty t] μ Q := ⟨"str", b, rfl, h, q⟩
theorem rd_isiN {t : String} (h : kitB "NoneType" t = some b) (q : Q (.bl b) μ) : fIsi [.non, .ty t] μ Q := ⟨"NoneType", b, rfl, h, q⟩
theorem rd_isiT {t : String} (h : kitB "tuple" t = some b) (q : Q (.bl b) μ) : fIsi [.tup xs, .ty t] μ Q := ⟨"tuple", b, rfl, h, q⟩
theorem rd_isiL {t : String} (h : kitB "list" t = some b) (q : Q (.bl b) μ) : fIsi [.lst xs, .ty t] μ Q := ⟨"list", b, rfl, h, q⟩
theorem rd_newF (q : Q (.lst xs) μ) : New false xs μ Q := q
theorem rd_newT (q : ∀ l, μ l = none → Q (.at l) (put μ l (.lst xs))) : New true xs μ Q := q
theorem rd_set {v : D} {k : Nat} {R : Mu → Prop} (h1 : μ l = some (.lst xs)) (h : ixN xs.length i = some k) (q : R (put μ l (.lst (xs.set k v)))) : f3List (.at l) (.int i) v μ R := ⟨xs, k, h1, h, q⟩
theorem rd_gtup {n : Nat} {r : WGs} {R : Rho → Mu → Prop} (h : ds.length = n) (q : r ds ρ μ R) : wgTup n r (.tup ds) ρ μ R := ⟨h, q⟩
theorem rd_gcons {a : WG} {r : WGs} {R : Rho → Mu → Prop} (q : a d ρ μ fun ρ1 μ1 => r es ρ1 μ1 R) : wgCons a r (d :: es) ρ μ R := ⟨d, es, rfl, q⟩
theorem rd_gnil {R : Rho → Mu → Prop} (q : R ρ μ) : wgNil [] ρ μ R := ⟨rfl, q⟩
theorem rd_len {α : Type} {zs : List α} {n : Nat} {R : Prop} (h : zs.length = n) (q : R) : zs.length = n ∧ R := ⟨h, q⟩
theorem rd_len1 {α : Type} {zs : List α} {n : Nat} {R : Prop} (h : zs.length + 1 = n) (q : R) : zs.length + 1 = n ∧ R := ⟨h, q⟩
theorem rd_sz {n : Nat} {R : Prop} (h : n ≤ sizeLine) (q : R) : n ≤ sizeLine ∧ R := ⟨h, q⟩
theorem rd_fld {C : Addr} {f : Str} {fs : List (Str × D)} {R : Addr → List (Str × D) → D → Prop} (h : μ p = some (.ins C fs)) (hl : fs.lookup f = some e) (q : R p fs e) : ∃ p' fs' e', D.at p = .at p' ∧ μ p' = some (.ins C fs') ∧ fs'.lookup f = some e' ∧ R p' fs' e' := ⟨p, fs, e, rfl, h, hl, q⟩
theorem rd_setfld {C : Addr} {fs : List (Str × D)} {R : Addr → List (Str × D) → Prop} (h : μ p = some (.ins C fs)) (hl : fs.length < 1000) (q : R p fs) : ∃ p' fs', D.at p = .at p' ∧ μ p' = some (.ins C fs') ∧ fs'.length < 1000 ∧ R p' fs' := ⟨p, fs, rfl, h, hl, q⟩
theorem rd_meth {C : Addr} {m : Str} {fs : List (Str × D)} {R : Addr → List (Str × D) → Prop} (h : μ p = some (.ins C fs)) (hl : fs.lookup m = none) (q : R p fs) : ∃ p' fs', D.at p = .at p' ∧ μ p' = some (.ins C fs') ∧ fs'.lookup m = none ∧ R p' fs' := ⟨p, fs, rfl, h, hl, q⟩
theorem rd_itl {R : List D → Prop} (q : R xs) : ∃ ds, Lr μ (.lst xs) ds ∧ R ds := ⟨xs, rfl, q⟩
theorem rd_ita {R : List D → Prop} (h : μ l = some (.lst xs)) (q : R xs) : ∃ ds, Lr μ (.at l) ds ∧ R ds := ⟨xs, .inl h, q⟩
theorem rd_itr {R : List D → Prop} (h : μ l = some (.ro xs)) (q : R xs) : ∃ ds, Lr μ (.at l) ds ∧ R ds := ⟨xs, .inr h, q⟩
theorem rd_lsa {R : Prop} (h : μ l = some (.lst xs)) (q : R) : (∃ zs, Ls μ (.at l) zs) ∧ R := ⟨⟨xs, h⟩, q⟩
theorem rd_rng {R : Int → Prop} (h : -(2 ^ 62) ≤ i ∧ i < 2 ^ 62) (q : R i) : ∃ j, [D.int i] = [.int j] ∧ -(2 ^ 62) ≤ j ∧ j < 2 ^ 62 ∧ R j := ⟨i, rfl, h.1, h.2, q⟩
theorem rd_append (h : μ l = some (.lst xs)) (hs : xs.length ≤ 1000000) (q : Q .non (put μ l (.lst (xs ++ [d])))) : fAppend (.at l) [d] μ Q := ⟨l, xs, d, rfl, rfl, h, hs, q⟩
theorem rd_extl (h : μ l = some (.lst xs)) (hs : xs.length + ys.length ≤ 1000000) (q : Q .non (put μ l (.lst (xs ++ ys)))) : fExtend (.at l) [.lst ys] μ Q := ⟨l, xs, .lst ys, ys, rfl, rfl, h, rfl, hs, q⟩
theorem rd_exta (h : μ l = some (.lst xs)) (h2 : μ p = some (.lst ys)) (hs : xs.length + ys.length ≤ 1000000) (q : Q .non (put μ l (.lst (xs ++ ys)))) : fExtend (.at l) [.at p] μ Q := ⟨l, xs, .at p, ys, rfl, rfl, h, h2, hs, q⟩
theorem rd_rev (h : μ l = some (.lst xs)) (q : Q .non (put μ l (.lst xs.reverse))) : fReverse (.at l) [] μ Q := ⟨l, xs, rfl, rfl, h, q⟩
theorem put_at {a : Addr} {u : O} {o : O} (h : μ a = some o) (n : a ≠ l) : put μ l u a = some o := by rw [put_ne n]; exact h
theorem put_no {a : Addr} {u : O} (h : μ a = none) (n : a ≠ l) : put μ l u a = none := by rw [put_ne n]; exact h
theorem no_put {a : Addr} {u : O} (h : put μ l u a = none) : a ≠ l ∧ μ a = none := by
  by_cases e : a = l
  · subst e
    rw [put_same] at h
    cases h
  · rw [put_ne e] at h
    exact ⟨e, h⟩
theorem ne_no {a : Addr} {o : O} (h : μ a = some o) (g : μ l = none) : a ≠ l := fun e => by rw [e, g] at h; cases h
theorem ne_at {a : Addr} {o u : O} (h : μ a = some o) (g : μ l = some u) (n : o ≠ u) : a ≠ l := fun e => by rw [e, g] at h; cases h; exact n rfl
end
theorem divw {i m : Int} (h0 : 0 < m) (h : m ≤ 10 ^ 30) : CDivW i m := by
  refine ⟨h0, ?_⟩
  have h1 : m.natAbs ≠ 0 := by omega
  have h2 : m.natAbs.log2 < 100 := (Nat.log2_lt h1).mpr (by omega)
  omega

/-- what a comprehension asks behind its iterable -/
theorem fl_nil : ([] : List (Str × D)).length ≤ 0 := Nat.le_refl 0
theorem fl_put {f : Str} {d : D} : ∀ {fs : List (Str × D)} {n : Nat}, fs.length ≤ n → (putFD f d fs).length ≤ n + 1
  | [], _, _ => by show 1 ≤ _; omega
  | (g, x) :: r, n, h => by
    show (if g = f then (g, d) :: r else (g, x) :: putFD f d r).length ≤ n + 1
    split
    · simp at h ⊢; omega
    · have := fl_put (f := f) (d := d) (fs := r) (n := n - 1) (by simp at h; omega)
      simp at h ⊢
      omega
theorem fl_cons {q : Str × D} {fs : List (Str × D)} {n : Nat} (h : fs.length ≤ n) : (q :: fs).length ≤ n + 1 := Nat.succ_le_succ h
theorem fl_lt {fs : List (Str × D)} {n : Nat} (h : fs.length ≤ n) (g : n < 1000) : fs.length < 1000 := Nat.lt_of_le_of_lt h g
def LcB (g : WG) (t : WT) (a : WE) (vs : List Nat) (ρ : Rho) (Q : DQ) (ds : List D) (kp : Mu → Prop) (μ1 : Mu) : Prop := ds.length ≤ 1000000 ∧ ∀ L, μ1 L = none → ∃ P : Nat → Mu → Prop, P 0 (put μ1 L (.lst [])) ∧ (∀ i μ, i ≤ ds.length → P i μ → kp μ) ∧
  (∀ i d μ, ds[i]? = some d → P i μ → g d (wipeD ρ vs) μ fun ρ2 μ2 => t ρ2 μ2 fun b μ3 => Br b (a ρ2 μ3 fun e μ4 => ∃ acc, μ4 L = some (.lst acc) ∧ acc.length ≤ i ∧ P (i + 1) (put μ4 L (.lst (acc ++ [e])))) (P (i + 1) μ3)) ∧
  ∀ μ, P ds.length μ → wkR Q (.at L) μ
theorem wLc_eq {wi : WI} {g : WG} {t : WT} {a : WE} {vs : List Nat} {ρ : Rho} {μ : Mu} {Q : DQ} : wLc wi g t a vs ρ μ Q = wi ρ μ fun ds kp μ1 => LcB g t a vs ρ Q ds kp μ1 := rfl
/-! ### helpers of readings -/
theorem atI_ok {α : Type} {xs : List α} {i : Int} (h0 : 0 ≤ i) (h : i < xs.length) : atI xs i = some (xs[i.toNat]'(by omega)) := by
  unfold atI ixN
  rw [if_pos h0, if_pos h]
  exact List.getElem?_eq_getElem _
theorem atI_map {α β : Type} (f : α → β) {xs : List α} {i : Int} (h0 : 0 ≤ i) (h : i < xs.length) : ∃ x, x ∈ xs ∧ atI (xs.map f) i = some (f x) :=
  ⟨xs[i.toNat]'(by omega), List.getElem_mem _, by rw [atI_ok h0 (by rw [List.length_map]; exact h), List.getElem_map]⟩
theorem ints_at {ns : List Int} {i : Int} (h0 : 0 ≤ i) (h : i < ns.length) : ∃ f, f ∈ ns ∧ atI (ns.map D.int) i = some (.int f) := atI_map D.int h0 h
/-- a comprehension whose turns leave all as it stands -/
theorem lc_pure {α : Type} {g : WG} {t : WT} {a : WE} {vs : List Nat} {ρ : Rho} {Q : DQ} {kp : Mu → Prop} {μ1 : Mu} {f h : α → D} {xs : List α} {p : α → Bool} (sz : xs.length ≤ 1000000) (hk : ∀ L acc, μ1 L = none → kp (put μ1 L (.lst acc)))
    (hs : ∀ x ∈ xs, ∀ L acc (K1 : DQ) (K2 : Mu → Prop), μ1 L = none → (p x = true → K1 (h x) (put μ1 L (.lst acc))) → (p x = false → K2 (put μ1 L (.lst acc))) → g (f x) (wipeD ρ vs) (put μ1 L (.lst acc)) fun ρ2 μ2 => t ρ2 μ2 fun b μ3 => Br b (a ρ2 μ3 K1) (K2 μ3))
    (hd : Q (.lst ((xs.filter p).map h)) μ1) : LcB g t a vs ρ Q (xs.map f) kp μ1 := by
  refine lc_by (fun i acc => acc = ((xs.take i).filter p).map h) (by rw [List.length_map]; exact sz) (by simp) hk (fun acc _ e => by
    rw [List.length_map, List.take_length] at e
    rw [e]
    exact hd) fun L i d acc hL la hi r => ?_
  rw [List.getElem?_map] at hi
  cases e : xs[i]? with
  | none => rw [e] at hi; cases hi
  | some x =>
    rw [e] at hi
    cases hi
    have ht : xs.take (i + 1) = xs.take i ++ [x] := by rw [List.take_add_one, e]; rfl
    refine hs x (List.mem_of_getElem? e) L acc _ _ hL (fun hp => lc_more la ?_) fun hp => lc_skip la ?_
    · rw [r, ht, List.filter_append, List.map_append, List.filter_cons_of_pos hp]
      rfl
    · rw [r, ht, List.filter_append, List.filter_cons_of_neg (by simp [hp])]
      simp
/-- .. of a list without a test -/
theorem len_filter_le {α : Type} {xs : List α} {p : α → Bool} {n : Nat} (h : xs.length ≤ n) : (xs.filter p).length ≤ n := Nat.le_trans (List.length_filter_le _ _) h
theorem take_succ_get {α : Type} {xs : List α} {i : Nat} {x : α} (e : xs[i]? = some x) : xs.take (i + 1) = xs.take i ++ [x] := by rw [List.take_add_one, e]; rfl
theorem less1 {μ : Mu} {l : Addr} {o : O} (h : μ l = none) : Less (put μ l o) μ := (Less.refl μ).put h
end Dl

namespace Dl
open PySem PySem.Spec PyProof.Rows L2
/-! ### dicts, read -/
section
variable {μ : Mu} {a p : Addr} {i : Int} {ks : List D} {k : List Key} {kvs : List (Key × D)} {kts : List (List Key × D)} {v : D} {R : Option D → Prop} {T : D → Prop} {G : Prop} {Q : Mu → Prop}
theorem rd_getK (h : μ a = some (.dK kvs)) (q : R (atD kvs (.inl i))) : ∃ o, GetD μ (.at a) (.int i) o ∧ R o := ⟨_, .inl ⟨kvs, .inl i, .inl h, rfl, rfl⟩, q⟩
theorem rd_getT (h : μ a = some (.dT kts)) (hk : keysD ks = some k) (q : R (atD kts k)) : ∃ o, GetD μ (.at a) (.tup ks) o ∧ R o := ⟨_, .inr ⟨kts, ks, k, h, rfl, hk, rfl⟩, q⟩
theorem rd_dgetK (h : μ a = some (.dK kvs)) (hv : atD kvs (.inl i) = some v) (q : T v) : ∃ v, GetD μ (.at a) (.int i) (some v) ∧ T v := ⟨v, .inl ⟨kvs, .inl i, .inl h, rfl, hv.symm⟩, q⟩
theorem rd_dgetT (h : μ a = some (.dT kts)) (hk : keysD ks = some k) (hv : atD kts k = some v) (q : T v) : ∃ v, GetD μ (.at a) (.tup ks) (some v) ∧ T v := ⟨v, .inr ⟨kts, ks, k, h, rfl, hk, hv.symm⟩, q⟩
theorem rd_dicK (h : μ a = some (.dK kvs)) (q : G) : isDic μ (.at a) ∧ G := ⟨⟨a, rfl, .inl ⟨kvs, h⟩⟩, q⟩
theorem rd_dicT (h : μ a = some (.dT kts)) (q : G) : isDic μ (.at a) ∧ G := ⟨⟨a, rfl, .inr (.inl ⟨kts, h⟩)⟩, q⟩
theorem rd_putK (h : μ a = some (.dK kvs)) (hs : kvs.length ≤ 1000000) (q : Q (put μ a (.dK (putD kvs (.inl i) v)))) : PutD μ (.at a) (.int i) v Q := .inl ⟨kvs, .inl i, h, rfl, hs, q⟩
theorem rd_putT (h : μ a = some (.dT kts)) (hk : keysD ks = some k) (hs : kts.length ≤ 1000000) (q : Q (put μ a (.dT (putD kts k v)))) : PutD μ (.at a) (.tup ks) v Q := .inr ⟨kts, ks, k, h, rfl, hk, hs, q⟩
theorem rd_delK (h : μ a = some (.dK kvs)) (hs : (atD kvs (.inl i)).isSome = true) (q : Q (put μ a (.dK (dropD kvs (.inl i))))) : DelD μ (.at a) (.int i) Q := .inl ⟨kvs, .inl i, h, rfl, hs, q⟩
theorem rd_delT (h : μ a = some (.dT kts)) (hk : keysD ks = some k) (hs : (atD kts k).isSome = true) (q : Q (put μ a (.dT (dropD kts k)))) : DelD μ (.at a) (.tup ks) Q := .inr ⟨kts, ks, k, h, rfl, hk, hs, q⟩
end
/-! ### tables from keys to whole numbers -/
section
variable {α κ : Type} [DecidableEq α] [DecidableEq κ]
abbrev Tb (α : Type) := List (α × Int)
def getI (tb : Tb α) (k : α) : Option Int := (tb.find? fun q => decide (q.1 = k)).map (·.2)
def valI (tb : Tb α) (k : α) : Int := (getI tb k).getD 0
def putI (tb : Tb α) (k : α) (v : Int) : Tb α := if (tb.any fun q => decide (q.1 = k)) = true then tb.map (fun q => if q.1 = k then (q.1, v) else q) else tb ++ [(k, v)]
def dropI (tb : Tb α) (k : α) : Tb α := tb.filter fun q => decide (q.1 ≠ k)
/-- the count at k goes on by more; what comes to 0 is dropped -/
def bump (tb : Tb α) (k : α) (more : Int) : Tb α := if valI tb k + more = 0 then dropI tb k else putI tb k (valI tb k + more)
def enc (kx : α → κ) (tb : Tb α) : List (κ × D) := tb.map fun q => (kx q.1, D.int q.2)
abbrev kI (i : Int) : Key := .inl i
abbrev kP (s : Int × Int) : List Key := [.inl s.1, .inl s.2]
theorem kI_inj : ∀ {a b : Int}, kI a = kI b → a = b := fun h => by cases h; rfl
theorem kP_inj : ∀ {a b : Int × Int}, kP a = kP b → a = b := fun {a b} h => by
  obtain ⟨a1, a2⟩ := a
  obtain ⟨b1, b2⟩ := b
  simp at h
  rw [h.1, h.2]
variable {kx : α → κ} (inj : ∀ {a b : α}, kx a = kx b → a = b)
include inj
theorem enc_at (tb : Tb α) (k : α) : atD (enc kx tb) (kx k) = (getI tb k).map D.int := by
  unfold atD enc getI
  induction tb with
  | nil => rfl
  | cons q tb ih =>
    rw [List.map_cons, List.find?_cons, List.find?_cons]
    by_cases c : q.1 = k
    · simp [c]
    · have c2 : ¬ kx q.1 = kx k := fun z => c (inj z)
      simp only [c, c2, decide_false]
      exact ih
theorem enc_any (tb : Tb α) (k : α) : ((enc kx tb).any fun kv => decide (kv.1 = kx k)) = tb.any fun q => decide (q.1 = k) := by
  unfold enc
  rw [List.any_map]
  congr 1
  funext q
  show decide (kx q.1 = kx k) = decide (q.1 = k)
  rw [decide_eq_decide]
  exact ⟨fun z => inj z, fun z => by rw [z]⟩
theorem enc_put (tb : Tb α) (k : α) (v : Int) : putD (enc kx tb) (kx k) (.int v) = enc kx (putI tb k v) := by
  unfold putD putI
  rw [enc_any inj]
  split
  · unfold enc
    rw [List.map_map, List.map_map]
    congr 1
    funext q
    by_cases c : q.1 = k
    · simp [c]
    · have c2 : ¬ kx q.1 = kx k := fun z => c (inj z)
      simp [c, c2]
  · unfold enc
    rw [List.map_append]
    rfl
theorem enc_drop (tb : Tb α) (k : α) : dropD (enc kx tb) (kx k) = enc kx (dropI tb k) := by
  unfold dropD dropI enc
  rw [List.filter_map]
  congr 1
  congr 1
  funext q
  show decide (kx q.1 ≠ kx k) = decide (q.1 ≠ k)
  rw [decide_eq_decide]
  exact ⟨fun h z => h (by rw [z]), fun h z => h (inj z)⟩
omit inj
theorem enc_length (tb : Tb α) : (enc kx tb).length = tb.length := by unfold enc; rw [List.length_map]
theorem dropI_le (tb : Tb α) (k : α) : (dropI tb k).length ≤ tb.length := List.length_filter_le _ _
theorem putI_le (tb : Tb α) (k : α) (v : Int) : (putI tb k v).length ≤ tb.length + 1 := by
  unfold putI
  split
  · rw [List.length_map]; omega
  · rw [List.length_append]; simp
theorem bump_le (tb : Tb α) (k : α) (v : Int) : (bump tb k v).length ≤ tb.length + 1 := by
  unfold bump
  split
  · exact Nat.le_succ_of_le (dropI_le _ _)
  · exact putI_le _ _ _
/-! what they hold -/
theorem getI_put (tb : Tb α) (k j : α) (v : Int) : getI (putI tb k v) j = if j = k then some v else getI tb j := by
  unfold putI
  split
  · rename_i h
    induction tb with
    | nil => simp at h
    | cons q tb ih =>
      unfold getI at *
      rw [List.map_cons, List.find?_cons, List.find?_cons]
      by_cases c : q.1 = k
      · rw [if_pos c]
        by_cases e : j = k
        · subst e
          simp [c]
        · have c3 : ¬ q.1 = j := fun z => e (z.symm.trans c)
          simp only [c3, decide_false, if_neg e]
          by_cases h2 : (tb.any fun q => decide (q.1 = k)) = true
          · have := ih h2
            rw [if_neg e] at this
            exact this
          · have nk : ∀ q ∈ tb, ¬ q.1 = k := fun q hq z => h2 (List.any_eq_true.mpr ⟨q, hq, by simp [z]⟩)
            have : tb.map (fun q => if q.1 = k then (q.1, v) else q) = tb := by
              conv => rhs; rw [← List.map_id tb]
              exact List.map_congr_left fun q hq => by rw [if_neg (nk q hq)]; rfl
            rw [this]
      · rw [if_neg c]
        have h2 : (tb.any fun q => decide (q.1 = k)) = true := by simpa [c] using h
        have ih := ih h2
        by_cases e : q.1 = j
        · simp only [e, decide_true]
          rw [if_neg (fun z => c (e.trans z))]
        · simp only [e, decide_false]
          exact ih
  · rename_i h
    have nk : ∀ q ∈ tb, ¬ q.1 = k := fun q hq z => h (List.any_eq_true.mpr ⟨q, hq, by simp [z]⟩)
    unfold getI
    rw [List.find?_append]
    by_cases e : j = k
    · subst e
      have : tb.find? (fun q => decide (q.1 = j)) = none := List.find?_eq_none.mpr fun q hq => by simp [nk q hq]
      rw [this]
      simp
    · rw [if_neg e]
      have : ([(k, v)] : Tb α).find? (fun q => decide (q.1 = j)) = none := List.find?_eq_none.mpr fun q hq => by
        simp at hq
        rw [hq]
        simp [Ne.symm e]
      rw [this]
      simp
theorem getI_drop (tb : Tb α) (k j : α) : getI (dropI tb k) j = if j = k then none else getI tb j := by
  unfold dropI
  induction tb with
  | nil => simp [getI]
  | cons q tb ih =>
    by_cases c : q.1 = k
    · rw [List.filter_cons_of_neg (by simp [c]), ih]
      by_cases e : j = k
      · rw [if_pos e, if_pos e]
      · rw [if_neg e, if_neg e]
        unfold getI
        rw [List.find?_cons]
        have : ¬ q.1 = j := fun z => e (z.symm.trans c)
        simp [this]
    · rw [List.filter_cons_of_pos (by simp [c])]
      unfold getI at *
      rw [List.find?_cons, List.find?_cons]
      by_cases e : q.1 = j
      · simp only [e, decide_true]
        rw [if_neg (fun z => c (e.trans z))]
      · simp only [e, decide_false]
        exact ih
/-- every key stands once -/
def Nd (tb : Tb α) : Prop := (tb.map (·.1)).Nodup
theorem Nd.drop {tb : Tb α} (h : Nd tb) (k : α) : Nd (dropI tb k) := List.Nodup.sublist (List.Sublist.map _ List.filter_sublist) h
theorem Nd.put {tb : Tb α} (h : Nd tb) (k : α) (v : Int) : Nd (putI tb k v) := by
  unfold putI
  split
  · unfold Nd at *
    rw [List.map_map]
    have : (fun q : α × Int => (if q.1 = k then (q.1, v) else q).1) = fun q => q.1 := by
      funext q
      split <;> rfl
    rw [show ((fun x : α × Int => x.1) ∘ fun q => if q.1 = k then (q.1, v) else q) = fun q => q.1 from this]
    exact h
  · rename_i hn
    unfold Nd at *
    rw [List.map_append, List.nodup_append]
    refine ⟨h, by simp, fun a ha b hb => ?_⟩
    simp at hb
    rw [hb]
    intro z
    obtain ⟨q, hq, e⟩ := List.mem_map.mp ha
    exact hn (List.any_eq_true.mpr ⟨q, hq, by simp [e, z]⟩)
theorem Nd.bump {tb : Tb α} (h : Nd tb) (k : α) (v : Int) : Nd (bump tb k v) := by
  unfold Dl.bump
  split
  · exact h.drop k
  · exact h.put k _
theorem valI_bump (tb : Tb α) (k j : α) (v : Int) : valI (bump tb k v) j = valI tb j + if j = k then v else 0 := by
  unfold bump
  split
  · rename_i h
    show (getI (dropI tb k) j).getD 0 = _
    rw [getI_drop]
    by_cases e : j = k
    · subst e
      rw [if_pos rfl, if_pos rfl, h]
      rfl
    · rw [if_neg e, if_neg e, Int.add_zero]
      rfl
  · show (getI (putI tb k _) j).getD 0 = _
    rw [getI_put]
    by_cases e : j = k
    · subst e
      rw [if_pos rfl, if_pos rfl]
      rfl
    · rw [if_neg e, if_neg e, Int.add_zero]
      rfl
/-- no key holds 0 -/
def Nz (tb : Tb α) : Prop := ∀ q ∈ tb, q.2 ≠ 0
theorem Nz.bump {tb : Tb α} (h : Nz tb) (k : α) (v : Int) : Nz (bump tb k v) := by
  unfold Dl.bump
  split
  · exact fun q hq => h q (List.mem_filter.mp hq).1
  · rename_i hn
    unfold putI
    split
    · intro q hq
      obtain ⟨r, hr, e⟩ := List.mem_map.mp hq
      rw [← e]
      split
      · exact hn
      · exact h r hr
    · intro q hq
      rcases List.mem_append.mp hq with hq | hq
      · exact h q hq
      · simp at hq
        rw [hq]
        exact hn
theorem getI_mem {tb : Tb α} (h : Nd tb) {q : α × Int} (hq : q ∈ tb) : getI tb q.1 = some q.2 := by
  unfold getI
  induction tb with
  | nil => cases hq
  | cons r tb ih =>
    unfold Nd at h
    rw [List.map_cons, List.nodup_cons] at h
    rw [List.find?_cons]
    rcases List.mem_cons.mp hq with e | hq
    · subst e
      simp
    · have : ¬ r.1 = q.1 := fun z => h.1 (by rw [z]; exact List.mem_map_of_mem hq)
      simp only [this, decide_false]
      exact ih h.2 hq
theorem mem_getI {tb : Tb α} {k : α} {v : Int} (h : getI tb k = some v) : (k, v) ∈ tb := by
  unfold getI at h
  cases e : tb.find? fun q => decide (q.1 = k) with
  | none => rw [e] at h; cases h
  | some q =>
    rw [e] at h
    cases h
    have h1 := List.find?_some e
    simp at h1
    rw [← h1]
    exact List.mem_of_find?_eq_some e
/-- weighed sums -/
def wsum (p : α → Bool) (tb : Tb α) : Int := ((tb.filter fun q => p q.1).map (·.2)).sum
theorem wsum_nil (p : α → Bool) : wsum p ([] : Tb α) = 0 := rfl
theorem wsum_cons (p : α → Bool) (q : α × Int) (tb : Tb α) : wsum p (q :: tb) = (if p q.1 then q.2 else 0) + wsum p tb := by
  unfold wsum
  by_cases h : p q.1 = true
  · rw [List.filter_cons_of_pos (p := fun q : α × Int => p q.1) h, if_pos h, List.map_cons, List.sum_cons]
  · rw [List.filter_cons_of_neg (p := fun q : α × Int => p q.1) h, if_neg h, Int.zero_add]
theorem wsum_app (p : α → Bool) (xs ys : Tb α) : wsum p (xs ++ ys) = wsum p xs + wsum p ys := by
  unfold wsum
  rw [List.filter_append, List.map_append, List.sum_append]
theorem wsum_drop (p : α → Bool) {tb : Tb α} (h : Nd tb) (k : α) : wsum p (dropI tb k) = wsum p tb - if p k then valI tb k else 0 := by
  induction tb with
  | nil => simp [dropI, wsum, valI, getI]
  | cons q tb ih =>
    unfold Nd at h
    rw [List.map_cons, List.nodup_cons] at h
    have ih := ih h.2
    unfold dropI at *
    by_cases c : q.1 = k
    · have nk : ∀ r ∈ tb, ¬ r.1 = k := fun r hr z => h.1 (by rw [c, ← z]; exact List.mem_map_of_mem hr)
      rw [List.filter_cons_of_neg (by simp [c])]
      have e : tb.filter (fun q => decide (q.1 ≠ k)) = tb := List.filter_eq_self.mpr fun r hr => by simp [nk r hr]
      have e2 : valI (q :: tb) k = q.2 := by simp [valI, getI, c]
      rw [e, wsum_cons, e2, c]
      split <;> omega
    · rw [List.filter_cons_of_pos (by simp [c]), wsum_cons, wsum_cons, ih]
      have e2 : valI (q :: tb) k = valI tb k := by simp [valI, getI, c]
      rw [e2]
      omega
theorem wsum_put (p : α → Bool) {tb : Tb α} (h : Nd tb) (k : α) (v : Int) : wsum p (putI tb k v) = wsum p tb + if p k then v - valI tb k else 0 := by
  unfold putI
  split
  · rename_i hk
    induction tb with
    | nil => simp at hk
    | cons q tb ih =>
      unfold Nd at h
      rw [List.map_cons, List.nodup_cons] at h
      rw [List.map_cons, wsum_cons, wsum_cons]
      by_cases c : q.1 = k
      · have nk : ∀ r ∈ tb, ¬ r.1 = k := fun r hr z => h.1 (by rw [c, ← z]; exact List.mem_map_of_mem hr)
        have e : tb.map (fun q => if q.1 = k then (q.1, v) else q) = tb := by
          conv => rhs; rw [← List.map_id tb]
          exact List.map_congr_left fun q hq => by rw [if_neg (nk q hq)]; rfl
        have e2 : valI (q :: tb) k = q.2 := by simp [valI, getI, c]
        rw [e, if_pos c, e2, c]
        split <;> omega
      · have hk' : (tb.any fun q => decide (q.1 = k)) = true := by simpa [c] using hk
        have ih := ih h.2 hk'
        have e2 : valI (q :: tb) k = valI tb k := by simp [valI, getI, c]
        rw [if_neg c, ih, e2]
        omega
  · rename_i hn
    have nk : tb.find? (fun q => decide (q.1 = k)) = none := List.find?_eq_none.mpr fun q hq z => hn (List.any_eq_true.mpr ⟨q, hq, z⟩)
    have e : valI tb k = 0 := by simp [valI, getI, nk]
    rw [wsum_app, wsum_cons, wsum_nil, e]
    simp
theorem wsum_bump (p : α → Bool) {tb : Tb α} (h : Nd tb) (k : α) (v : Int) : wsum p (bump tb k v) = wsum p tb + if p k then v else 0 := by
  unfold bump
  split
  · rename_i e
    rw [wsum_drop p h]
    split <;> omega
  · rw [wsum_put p h]
    split <;> omega
end

section
variable {μ : Mu} {a : Addr} {i j v : Int} {tb : Tb Int} {tp : Tb (Int × Int)} {R : Option D → Prop} {T : D → Prop} {Q : Mu → Prop}
theorem valI_getD {α : Type} [DecidableEq α] (tb : Tb α) (k : α) : ((getI tb k).map D.int).getD (D.int 0) = D.int (valI tb k) := by
  unfold valI
  cases getI tb k <;> rfl
theorem some_of_val {α : Type} [DecidableEq α] {tb : Tb α} {k : α} (h : valI tb k ≠ 0) : (getI tb k).isSome = true := by
  unfold valI at h
  cases e : getI tb k with
  | none => rw [e] at h; exact absurd rfl h
  | some z => rfl
theorem rd_getI (h : μ a = some (.dK (enc kI tb))) (q : R ((getI tb i).map D.int)) : ∃ o, GetD μ (.at a) (.int i) o ∧ R o := rd_getK h (by rw [show (Sum.inl i : Key) = kI i from rfl, enc_at kI_inj]; exact q)
theorem rd_getP (h : μ a = some (.dT (enc kP tp))) (q : R ((getI tp (i, j)).map D.int)) : ∃ o, GetD μ (.at a) (.tup [.int i, .int j]) o ∧ R o := rd_getT (k := kP (i, j)) h rfl (by rw [enc_at kP_inj]; exact q)
theorem rd_putI (h : μ a = some (.dK (enc kI tb))) (hs : tb.length ≤ 1000000) (q : Q (put μ a (.dK (enc kI (putI tb i v))))) : PutD μ (.at a) (.int i) (.int v) Q := rd_putK h (by rw [enc_length]; exact hs) (by rw [show (Sum.inl i : Key) = kI i from rfl, enc_put kI_inj]; exact q)
theorem rd_putP (h : μ a = some (.dT (enc kP tp))) (hs : tp.length ≤ 1000000) (q : Q (put μ a (.dT (enc kP (putI tp (i, j) v))))) : PutD μ (.at a) (.tup [.int i, .int j]) (.int v) Q := rd_putT (k := kP (i, j)) h rfl (by rw [enc_length]; exact hs) (by rw [enc_put kP_inj]; exact q)
theorem rd_dropI (h : μ a = some (.dK (enc kI tb))) (hs : (getI tb i).isSome = true) (q : Q (put μ a (.dK (enc kI (dropI tb i))))) : DelD μ (.at a) (.int i) Q := rd_delK h (by rw [show (Sum.inl i : Key) = kI i from rfl, enc_at kI_inj, Option.isSome_map]; exact hs) (by rw [show (Sum.inl i : Key) = kI i from rfl, enc_drop kI_inj]; exact q)
theorem rd_dropP (h : μ a = some (.dT (enc kP tp))) (hs : (getI tp (i, j)).isSome = true) (q : Q (put μ a (.dT (enc kP (dropI tp (i, j)))))) : DelD μ (.at a) (.tup [.int i, .int j]) Q := rd_delT (k := kP (i, j)) h rfl (by rw [enc_at kP_inj, Option.isSome_map]; exact hs) (by rw [enc_drop kP_inj]; exact q)
theorem rd_dgetI (h : μ a = some (.dK (enc kI tb))) (hv : getI tb i = some v) (q : T (.int v)) : ∃ v, GetD μ (.at a) (.int i) (some v) ∧ T v := rd_dgetK (v := .int v) h (by rw [show (Sum.inl i : Key) = kI i from rfl, enc_at kI_inj, hv]; rfl) q
theorem rd_dgetP (h : μ a = some (.dT (enc kP tp))) (hv : getI tp (i, j) = some v) (q : T (.int v)) : ∃ v, GetD μ (.at a) (.tup [.int i, .int j]) (some v) ∧ T v := rd_dgetT (k := kP (i, j)) (v := .int v) h rfl (by rw [enc_at kP_inj, hv]; rfl) q
end
end Dl

namespace Dl
open PySem PySem.Spec PyProof.Rows L2
/-! ### pairs of whole numbers, sorted -/
abbrev Sp2 := Int × Int
/-- a pair as data -/
def spD (s : Sp2) : D := .tup [.int s.1, .int s.2]
def leP (p q : Sp2) : Bool := decide (p.1 < q.1 ∨ (p.1 = q.1 ∧ p.2 ≤ q.2))
def sortP (S : List Sp2) : List Sp2 := S.mergeSort leP
theorem leP_trans (a b c : Sp2) (h : leP a b = true) (g : leP b c = true) : leP a c = true := by
  simp only [leP, decide_eq_true_eq] at *
  omega
theorem leP_total (a b : Sp2) : (leP a b || leP b a) = true := by
  simp only [leP, Bool.or_eq_true, decide_eq_true_eq]
  omega
theorem leP_anti {a b : Sp2} (h : leP a b = true) (g : leP b a = true) : a = b := by
  obtain ⟨a1, a2⟩ := a
  obtain ⟨b1, b2⟩ := b
  simp only [leP, decide_eq_true_eq] at *
  ext <;> simp <;> omega
theorem leP_refl (a : Sp2) : leP a a = true := by simp [leP]
theorem sortP_pw (S : List Sp2) : (sortP S).Pairwise fun a b => leP a b = true := List.pairwise_mergeSort leP_trans leP_total S
theorem sortP_perm (S : List Sp2) : (sortP S).Perm S := List.mergeSort_perm S leP
theorem sortP_len (S : List Sp2) : (sortP S).length = S.length := (sortP_perm S).length_eq
theorem sortP_eq {S T : List Sp2} (h : T.Pairwise fun a b => leP a b = true) (p : T.Perm S) : T = sortP S :=
  List.Perm.eq_of_pairwise (le := fun a b => leP a b = true) (fun a b _ _ => leP_anti) h (sortP_pw S) (p.trans (sortP_perm S).symm)
theorem sortP_congr {S T : List Sp2} (p : S.Perm T) : sortP S = sortP T := sortP_eq (sortP_pw S) ((sortP_perm S).trans p)
theorem rs_sp {μ : Mu} (s : Sp2) : Rs μ (spD s) (.tuple [.int s.1, .int s.2]) := .tup (.cons (.int _) (.cons (.int _) .nil))
theorem pyD_sp (s : Sp2) : pyD (spD s) = .tuple [.int s.1, .int s.2] := by simp [spD, pyD, pyDs]
theorem depth_sp (s : Sp2) : (PyData.tuple [.int s.1, .int s.2]).depth ≤ 2 := by simp [PyData.depth, PyData.depthAll]
theorem le_pyD : (fun p q : Sp2 => PySem.W.dataLe false pyD (spD p) (spD q)) = leP := by
  have h := PySem.W.dataLe_ii (β := Sp2) (fun s => s.1) (fun s => s.2)
  funext p q
  have e : PySem.W.dataLe false pyD (spD p) (spD q) = PySem.W.dataLe false (fun b : Sp2 => pyD (spD b)) p q := rfl
  rw [e]
  have e2 : (fun b : Sp2 => pyD (spD b)) = fun b : Sp2 => .tuple [.int b.1, .int b.2] := by
    funext b
    exact pyD_sp b
  rw [e2, h]
  rfl
theorem sort_sp (S : List Sp2) : (S.map spD).mergeSort (PySem.W.dataLe false pyD) = (sortP S).map spD := by
  unfold sortP
  rw [← List.map_mergeSort (r := leP) (s := PySem.W.dataLe false pyD) (f := spD) fun a _ b _ => (congrFun (congrFun le_pyD a) b).symm]
theorem alike_sp (S : List Sp2) : PySem.W.AllAlike ((S.map spD).map pyD) := by
  intro d hd d' hd'
  simp only [List.map_map, List.mem_map, Function.comp] at hd hd'
  obtain ⟨s, _, rfl⟩ := hd
  obtain ⟨s', _, rfl⟩ := hd'
  rw [pyD_sp, pyD_sp]
  rfl
section
variable {μ : Mu} {a r : Addr} {m : Bool} {Q : DQ}
theorem rd_sortedP {tb : Tb Sp2} (h : μ a = some (.dT (enc kP tb))) (hl : tb.length ≤ 1000000) (q : New m ((sortP (tb.map (·.1))).map spD) μ Q) : fSortedT m [.at a] μ Q := by
  have e : (enc kP tb).map (fun q => keyT q.1) = (tb.map (·.1)).map spD := by
    unfold enc
    rw [List.map_map, List.map_map]
    rfl
  refine ⟨a, enc kP tb, rfl, h, fun q hq => ?_, ?_, by rw [enc_length]; exact hl, ?_⟩
  · obtain ⟨r, _, rfl⟩ := List.mem_map.mp hq
    exact List.cons_ne_nil _ _
  · rw [e]
    exact alike_sp _
  · rw [e, sort_sp]
    exact q
theorem sortable_sp (S : List Sp2) : PySem.W.Sortable ((S.map spD).map pyD) := by
  refine .inl fun d hd => ?_
  simp only [List.map_map, List.mem_map, Function.comp] at hd
  obtain ⟨s, _, rfl⟩ := hd
  rw [pyD_sp]
  exact ⟨_, _, rfl⟩
theorem rd_sortedL {S : List Sp2} (h : μ r = some (.lst (S.map spD))) (hl : S.length ≤ 1000000) (q : New m ((sortP S).map spD) μ Q) : fSorted m [.at r] μ Q := by
  refine ⟨.at r, S.map spD, rfl, .inl h, fun x hx => ?_, alike_sp S, sortable_sp S, by rw [List.length_map]; exact hl, ?_⟩
  · obtain ⟨s, _, rfl⟩ := List.mem_map.mp hx
    rw [pyD_sp]
    exact ⟨rs_sp s, Nat.le_trans (depth_sp s) (by decide)⟩
  · rw [sort_sp]
    exact q
end
/-! ### what a list of pairs reads as -/
def pP (s : Sp2) : PyData := .tuple [.int s.1, .int s.2]
theorem rss_sp {μ : Mu} (S : List Sp2) : Rss μ (S.map spD) (S.map pP) := Rss.map fun s _ => rs_sp s
theorem depthAll_sp (S : List Sp2) : PyData.depthAll (S.map pP) ≤ 2 := by
  induction S with
  | nil => exact Nat.zero_le _
  | cons s S ih =>
    rw [List.map_cons, PyData.depthAll]
    exact Nat.max_le.mpr ⟨depth_sp s, ih⟩
theorem depth_spl (S : List Sp2) : (PyData.list (S.map pP)).depth ≤ 3 := by
  rw [PyData.depth]
  have := depthAll_sp S
  omega
/-! ### a table of counts, told one by one -/
/-- every key as often as it is counted, in order -/
def spansOf (tb : Tb Sp2) : List Sp2 := (sortP (tb.map (·.1))).flatMap fun s => List.replicate (valI tb s).toNat s
theorem count_flatMap_rep (f : Sp2 → Nat) : ∀ (ks : List Sp2) (s : Sp2), ks.Nodup → (ks.flatMap fun k => List.replicate (f k) k).count s = if s ∈ ks then f s else 0
  | [], s, _ => by simp
  | k :: ks, s, h => by
    rw [List.nodup_cons] at h
    rw [List.flatMap_cons, List.count_append, count_flatMap_rep f ks s h.2, List.count_replicate]
    by_cases e : k = s
    · subst e
      simp [h.1]
    · have e2 : ¬ s = k := fun z => e z.symm
      simp [e, e2]
theorem pw_flatMap_rep (f : Sp2 → Nat) : ∀ (ks : List Sp2), (ks.Pairwise fun a b => leP a b = true) → (ks.flatMap fun k => List.replicate (f k) k).Pairwise fun a b => leP a b = true
  | [], _ => .nil
  | k :: ks, h => by
    rw [List.pairwise_cons] at h
    rw [List.flatMap_cons, List.pairwise_append]
    refine ⟨List.pairwise_replicate.mpr (.inr (leP_refl k)), pw_flatMap_rep f ks h.2, fun a ha b hb => ?_⟩
    rw [List.mem_replicate] at ha
    obtain ⟨c, hc, hb⟩ := List.mem_flatMap.mp hb
    rw [List.mem_replicate] at hb
    rw [ha.2, hb.2]
    exact h.1 c hc
/-- the counts tell the list S -/
structure Cnt (tb : Tb Sp2) (S : List Sp2) : Prop where
  nd : Nd tb
  nz : Nz tb
  val : ∀ s, valI tb s = (S.count s : Int)
theorem Cnt.nil : Cnt [] [] := ⟨List.nodup_nil, fun q hq => (by cases hq), fun s => by simp [valI, getI]⟩
theorem Cnt.add {tb : Tb Sp2} {S : List Sp2} (h : Cnt tb S) (s : Sp2) : Cnt (bump tb s 1) (S ++ [s]) := ⟨h.nd.bump s 1, h.nz.bump s 1, fun t => by
  rw [valI_bump, h.val, List.count_append, List.count_singleton]
  by_cases e : t = s
  · subst e
    simp
  · have e2 : ¬ s = t := fun z => e z.symm
    simp [e, e2]⟩
theorem Cnt.spans {tb : Tb Sp2} {S : List Sp2} (h : Cnt tb S) : spansOf tb = sortP S := by
  refine sortP_eq (pw_flatMap_rep _ _ (sortP_pw _)) ?_
  rw [List.perm_iff_count]
  intro s
  have nd : (sortP (tb.map (·.1))).Nodup := (sortP_perm _).nodup_iff.mpr h.nd
  rw [show spansOf tb = (sortP (tb.map (·.1))).flatMap fun s => List.replicate (valI tb s).toNat s from rfl] at *
  rw [count_flatMap_rep _ _ s nd]
  split
  · rw [h.val]
    omega
  · rename_i hn
    have e : getI tb s = none := by
      cases e : getI tb s with
      | none => rfl
      | some v => exact absurd ((sortP_perm _).mem_iff.mpr (List.mem_map.mpr ⟨_, mem_getI e, rfl⟩)) hn
    have := h.val s
    unfold valI at this
    rw [e] at this
    simp at this
    omega
theorem Cnt.size {tb : Tb Sp2} {S : List Sp2} (h : Cnt tb S) : tb.length ≤ S.length := by
  have h1 : (tb.map (·.1)).length ≤ S.length := by
    have nd : (tb.map (·.1)).Nodup := h.nd
    have sub : ∀ s ∈ tb.map (·.1), s ∈ S := fun s hs => by
      obtain ⟨q, hq, rfl⟩ := List.mem_map.mp hs
      have g := getI_mem h.nd hq
      have v := h.val q.1
      unfold valI at v
      rw [g] at v
      simp at v
      have nz := h.nz q hq
      exact List.count_pos_iff.mp (by omega)
    exact List.Nodup.length_le_of_subset nd fun s hs => sub s hs
  rwa [List.length_map] at h1
theorem Cnt.get {tb : Tb Sp2} {S : List Sp2} (h : Cnt tb S) {s : Sp2} (hs : s ∈ tb.map (·.1)) : getI tb s = some (S.count s : Int) := by
  obtain ⟨q, hq, rfl⟩ := List.mem_map.mp hs
  have g := getI_mem h.nd hq
  have v := h.val q.1
  unfold valI at v
  rw [g] at v
  rw [g, ← v]
  rfl
/-! ### ends that rise and fall -/
def crossP (m : Int) (s : Sp2) : Bool := decide (s.1 ≤ m) && decide (m < s.2)
def riseOf (rs : Tb Int) (s : Sp2) : Tb Int := if s.1 < s.2 then bump (bump rs s.1 1) s.2 (-1) else rs
structure Rise (rs : Tb Int) (S : List Sp2) : Prop where
  nd : Nd rs
  nz : Nz rs
  sum : ∀ m, wsum (fun e => decide (e ≤ m)) rs = ((S.filter (crossP m)).length : Int)
  size : rs.length ≤ 2 * S.length
theorem Rise.nil : Rise [] [] := ⟨List.nodup_nil, fun q hq => (by cases hq), fun m => rfl, Nat.le_refl _⟩
theorem Rise.add {rs : Tb Int} {S : List Sp2} (h : Rise rs S) (s : Sp2) : Rise (riseOf rs s) (S ++ [s]) := by
  unfold riseOf
  split
  · rename_i hlt
    refine ⟨(h.nd.bump _ _).bump _ _, (h.nz.bump _ _).bump _ _, fun m => ?_, ?_⟩
    · rw [wsum_bump _ (h.nd.bump _ _), wsum_bump _ h.nd, h.sum, List.filter_append, List.length_append]
      by_cases c : crossP m s = true
      · rw [List.filter_cons_of_pos c]
        simp [crossP] at c ⊢
        omega
      · rw [List.filter_cons_of_neg c]
        simp [crossP] at c ⊢
        by_cases c1 : s.1 ≤ m
        · have := c c1
          simp [c1, this]
          omega
        · have : ¬ s.2 ≤ m := by omega
          simp [c1, this]
    · have a := bump_le (bump rs s.1 1) s.2 (-1)
      have b := bump_le rs s.1 1
      have := h.size
      simp
      omega
  · rename_i hlt
    refine ⟨h.nd, h.nz, fun m => ?_, ?_⟩
    · rw [h.sum, List.filter_append]
      have c : ¬ crossP m s = true := by simp [crossP]; omega
      rw [List.filter_cons_of_neg c]
      simp
    · have := h.size
      simp
      omega
end Dl

namespace Dl
open PySem PySem.Spec PyProof.Rows L2
/-! ### what repr shows -/
/-- p may be shown: its leaves are short, its weight is at most n, its depth at most k -/
structure Shw (p : PyData) (n k : Nat) : Prop where
  sh : p.showable = true
  ls : p.leavesShort 41 = true
  w : p.weight ≤ n
  dp : p.depth ≤ k
theorem Shw.int {i : Int} (h : i.natAbs < 10 ^ 40) : Shw (.int i) 134 1 := by
  have hlg : i.natAbs.log2 < 133 := by
    by_cases h0 : i.natAbs = 0
    · rw [h0]; decide
    · exact (Nat.log2_lt h0).mpr (by omega)
  refine ⟨?_, ?_, ?_, ?_⟩
  · simp only [PyData.showable, decide_eq_true_eq]
    omega
  · simp only [PyData.leavesShort, decide_eq_true_eq]
    show (Str.ofString (toString i)).length ≤ 41
    rw [PyProof.Rows.ofString_length]
    exact int_text_length_le10 (k := 40) (by decide) h
  · simp only [PyData.weight]
    split <;> omega
  · simp [PyData.depth]
theorem Shw.bool (b : Bool) : Shw (.bool b) 0 1 := ⟨rfl, rfl, Nat.le_refl _, by simp [PyData.depth]⟩
theorem Shw.none : Shw .none 0 1 := ⟨rfl, rfl, Nat.le_refl _, by simp [PyData.depth]⟩
theorem shw_all {n k : Nat} : ∀ {xs : List PyData}, (∀ x ∈ xs, Shw x n k) → PyData.showableAll xs = true ∧ PyData.leavesShortAll 41 xs = true ∧ PyData.weightAll xs ≤ (n + 1) * xs.length ∧ PyData.depthAll xs ≤ k
  | [], _ => ⟨rfl, rfl, Nat.zero_le _, Nat.zero_le _⟩
  | x :: xs, h => by
    obtain ⟨a, b, c, d⟩ := shw_all (xs := xs) fun y hy => h y (List.mem_cons_of_mem _ hy)
    have hx := h x List.mem_cons_self
    refine ⟨?_, ?_, ?_, ?_⟩
    · simp only [PyData.showableAll, hx.sh, a, Bool.and_self]
    · simp only [PyData.leavesShortAll, hx.ls, b, Bool.and_self]
    · simp only [PyData.weightAll, List.length_cons]
      have := hx.w
      rw [Nat.mul_add]
      omega
    · rw [PyData.depthAll]
      exact Nat.max_le.mpr ⟨hx.dp, d⟩
theorem Shw.list {n k : Nat} {xs : List PyData} (h : ∀ x ∈ xs, Shw x n k) : Shw (.list xs) ((n + 1) * xs.length) (k + 1) := by
  obtain ⟨a, b, c, d⟩ := shw_all h
  exact ⟨a, b, c, by rw [PyData.depth]; omega⟩
theorem Shw.tuple {n k : Nat} {xs : List PyData} (h : ∀ x ∈ xs, Shw x n k) : Shw (.tuple xs) ((n + 1) * xs.length) (k + 1) := by
  obtain ⟨a, b, c, d⟩ := shw_all h
  exact ⟨a, b, c, by rw [PyData.depth]; omega⟩
theorem Shw.mono {p : PyData} {n k n' k' : Nat} (h : Shw p n k) (hn : n ≤ n') (hk : k ≤ k') : Shw p n' k' := ⟨h.sh, h.ls, Nat.le_trans h.w hn, Nat.le_trans h.dp hk⟩
theorem Shw.pP {s : Sp2} (h1 : s.1.natAbs < 10 ^ 40) (h2 : s.2.natAbs < 10 ^ 40) : Shw (pP s) 270 2 :=
  (Shw.tuple (n := 134) (k := 1) (xs := [.int s.1, .int s.2]) (by
    intro x hx
    simp at hx
    rcases hx with rfl | rfl
    · exact .int h1
    · exact .int h2)).mono (by simp) (by omega)
theorem Shw.pPs {S : List Sp2} (h : ∀ s ∈ S, s.1.natAbs < 10 ^ 40 ∧ s.2.natAbs < 10 ^ 40) : Shw (.list (S.map Dl.pP)) (271 * S.length) 3 :=
  (Shw.list (n := 270) (k := 2) (xs := S.map Dl.pP) (by
    intro x hx
    obtain ⟨s, hs, rfl⟩ := List.mem_map.mp hx
    exact .pP (h s hs).1 (h s hs).2)).mono (by rw [List.length_map]; exact Nat.le_refl _) (by omega)
section
variable {μ : Mu} {Q : DQ} {d : D} {l : Addr} {i : Int}
theorem rd_repr {p : PyData} {n k : Nat} (r : Rs μ d p) (s : Shw p n k) (hk : k ≤ 60) (hn : n ≤ 380000) (q : Q (.str p.shown) μ) : fRepr [d] μ Q := by
  refine ⟨d, p, rfl, r, s.sh, Nat.le_trans s.dp hk, ?_, q⟩
  have h := PyData.shown_le 41 (by decide) p s.ls
  have h2 : (41 + 2) * p.weight ≤ 43 * 380000 := Nat.mul_le_mul (by omega) (Nat.le_trans s.w hn)
  rw [sizeLine_eq]
  omega
theorem rd_reprI (h : i.natAbs < 10 ^ 40) (q : Q (.str (PyData.int i).shown) μ) : fRepr [.int i] μ Q := rd_repr (.int i) (.int h) (by decide) (by decide) q
theorem rd_reprPa {S : List Sp2} (hl : μ l = some (.lst (S.map spD))) (h : ∀ s ∈ S, s.1.natAbs < 10 ^ 40 ∧ s.2.natAbs < 10 ^ 40) (hs : S.length ≤ 1000) (q : Q (.str (PyData.list (S.map pP)).shown) μ) : fRepr [.at l] μ Q := rd_repr (.at hl (rss_sp S)) (.pPs h) (by decide) (by omega) q
theorem rd_reprPl {S : List Sp2} (h : ∀ s ∈ S, s.1.natAbs < 10 ^ 40 ∧ s.2.natAbs < 10 ^ 40) (hs : S.length ≤ 1000) (q : Q (.str (PyData.list (S.map pP)).shown) μ) : fRepr [.lst (S.map spD)] μ Q := rd_repr (.lst (rss_sp S)) (.pPs h) (by decide) (by omega) q
theorem plain_sp (S : List Sp2) : (PyData.list (S.map pP)).plain = true := Rs.plain _ _ (.lst (rss_sp (μ := fun _ => none) S))
theorem eqv_self (S : List Sp2) : PyData.eqv (.list (S.map pP)) (.list (S.map pP)) = true := PySem.SeqAt.eqv_refl_plain _ (plain_sp S)
theorem rd_eqPa {S T : List Sp2} {R : Bool → Prop} (hl : μ l = some (.lst (S.map spD))) (h : R (PyData.eqv (.list (S.map pP)) (.list (T.map pP)))) : EqQ μ (.at l) (.lst (T.map spD)) R :=
  .of _ _ (.at hl (rss_sp S)) (.lst (rss_sp T)) (by have := depth_spl S; omega) h
theorem rd_neA {xs : List D} {ps : List PyData} {R : Bool → Prop} (hl : μ l = some (.lst xs)) (hr : Rss μ xs ps) (h : R (PyData.eqv (.list ps) (.list []))) : EqQ μ (.at l) (.lst []) R :=
  .of _ _ (.at hl hr) (.lst .nil) (by simp [PyData.depth, PyData.depthAll]) h
theorem rd_eqsR {x : Str} {R : Bool → Prop} (h : R true) : EqQ μ (.str x) (.str x) R := rd_eqs (by simpa using h)
theorem rd_rg {m : Bool} {n : Int} {ρ : Rho} (h : 0 ≤ n ∧ n ≤ 1000000) (q : New m ((List.range n.toNat).map fun i : Nat => .int i) μ Q) : wLstRg m (wC (.int n)) ρ μ Q := ⟨h.1, h.2, q⟩
end
/-- the state of an object and the like, at a later store -/
theorem mem_cut {α : Type} {f : α → D} {S : List α} {lo hi : Option Int} {d : D} (h : d ∈ cutD (S.map f) lo hi) : ∃ s ∈ S, d = f s := by
  unfold cutD at h
  have h2 := List.mem_of_mem_drop (List.mem_of_mem_take h)
  obtain ⟨s, hs, e⟩ := List.mem_map.mp h2
  exact ⟨s, hs, e.symm⟩
theorem cut_len {ds : List D} {lo hi : Option Int} : (cutD ds lo hi).length ≤ ds.length := by
  unfold cutD
  rw [List.length_take, List.length_drop]
  omega
theorem map_get {α β : Type} {f : α → β} {xs : List α} {i : Nat} {d : β} (h : (xs.map f)[i]? = some d) : ∃ x, x ∈ xs ∧ xs[i]? = some x ∧ d = f x := by
  rw [List.getElem?_map] at h
  cases e : xs[i]? with
  | none => rw [e] at h; cases h
  | some x =>
    rw [e] at h
    cases h
    exact ⟨x, List.mem_of_getElem? e, rfl, rfl⟩
end Dl

namespace Dl
open PySem PySem.Spec PyProof.Rows L2
variable {B : Bs}
/-- a mid condition behind a statement -/
def wCut (a b : WS) : WS := fun DD ρ μ => ∃ M : Rho → Mu → Prop, a { nx := M, rt := DD.rt, bk := DD.bk, ct := DD.ct } ρ μ ∧ ∀ ρ' μ', M ρ' μ' → b DD ρ' μ'
theorem jss_cut {X : Cx} {st : Stmt} {rest : List Stmt} {a b : WS} (h1 : JS B X st a) (h2 : JSs B X rest b) : JSs B X (st :: rest) (wCut a b) := PSs.of (pss_cons h1 h2) fun E σ H ⟨ρ, μ, DD, rs, m, ⟨M, h, k⟩, l⟩ =>
  ⟨ρ, μ, _, rs, m, h, ⟨fun σ' H' ρ' μ' s r m' q => ⟨ρ', μ', DD, r, m', k _ _ q, l.step s⟩, l.rt, l.bk, l.ct⟩⟩
theorem wCut_eq {a b : WS} {DD : Ed} {ρ : Rho} {μ : Mu} : wCut a b DD ρ μ = ∃ M : Rho → Mu → Prop, a { nx := M, rt := DD.rt, bk := DD.bk, ct := DD.ct } ρ μ ∧ ∀ ρ' μ', M ρ' μ' → b DD ρ' μ' := rfl
theorem pick2 {d : Int} (h0 : 0 ≤ d) (h1 : d < 2) : ∃ j j' : Fin 2, j' ≠ j ∧ (∀ f : Fin 2 → D, atI [f 0, f 1] d = some (f j)) ∧ (∀ f : Fin 2 → D, atI [f 0, f 1] (1 - d) = some (f j')) ∧ ∀ k, k = j ∨ k = j' := by
  have h : d = 0 ∨ d = 1 := by omega
  rcases h with rfl | rfl
  · exact ⟨0, 1, by decide, fun f => rfl, fun f => rfl, by decide⟩
  · exact ⟨1, 0, by decide, fun f => rfl, fun f => rfl, by decide⟩
theorem eqv_nil (S : List Sp2) : PyData.eqv (.list (S.map pP)) (.list []) = S.isEmpty := by
  cases S with
  | nil => simp [PyData.eqv, PyData.eqvAll]
  | cons s S => simp [PyData.eqv, PyData.eqvAll]
theorem rd_neP {μ : Mu} {l : Addr} {S : List Sp2} {R : Bool → Prop} (hl : μ l = some (.lst (S.map spD))) (h : R S.isEmpty) : EqQ μ (.at l) (.lst []) R := rd_neA hl (rss_sp S) (by rw [eqv_nil]; exact h)
theorem fin2 (j : Fin 2) : j = 0 ∨ j = 1 := by omega
theorem less_no {μ μ0 : Mu} {a : Addr} (h : Less μ μ0) (n : μ a = none) : μ0 a = none := by
  rcases h a with e | e
  · exact e
  · rw [e]; exact n
theorem CalD.fn {P : Program} {w : World} {K : Frg} {mg : Str → Option Value} {base : Heap} {k : Nat} {x : Str} {st : Stmt} {ps : List Str} {sp : SpD} {f : Addr} {fd : FuncData} {oc : Value} {od : Option Addr} {sl : Array (Option Value)} (c : CalD P w K mg base k x st ps sp) (e : mg x = some (.ref f))
    (l : K.lookup f = some ⟨oc, od, .func fd, sl⟩) : FnG P w K mg base k f fd ps sp := by
  obtain ⟨f', fd', F, ⟨⟨oc', od', kV, doc, pm, an, cdv, ct, osl, e1, lk, _⟩, _⟩, e2⟩ := c.ex
  rw [e] at e2
  cases e2
  rw [l] at lk
  cases lk
  exact F
end Dl

namespace Dl.M
open PySem PySem.Spec PyProof.Rows L2 Dl
def top (i : Nat) : Stmt := PySem.Challenge.pw_deepfall_k41_spans_and_crossings.main.body.getD i (.Pass ⟨0, 0, 0, 0⟩)
abbrev s_at : Stmt := top 11
abbrev s_pot : Stmt := top 12
abbrev s_draw : Stmt := top 13
abbrev s_far : Stmt := top 14
abbrev s_Levels___init__ : Stmt := inClass (top 9) 0
abbrev s_end : Stmt := top 15
abbrev s_span : Stmt := top 16
abbrev s_Levels_spans : Stmt := inClass (top 9) 8
abbrev s_is_whole : Stmt := top 5
abbrev s_is_count : Stmt := top 6
abbrev s_want_count : Stmt := top 8
abbrev s_Levels_add_rise : Stmt := inClass (top 9) 1
abbrev s_Levels_add_span : Stmt := inClass (top 9) 2
abbrev s_Levels_put_span : Stmt := inClass (top 9) 3
abbrev s_put : Stmt := top 20
abbrev s_levels : Stmt := top 18
abbrev s_crossed : Stmt := top 17
abbrev s_Levels_crossing : Stmt := inClass (top 9) 5
abbrev s_Levels___len__ : Stmt := inClass (top 9) 10
abbrev s_told : Stmt := top 19
abbrev s_law : Stmt := top 21
structure Txt (K : Frg) (mg : Str → Option Value) (C_Levels : Addr) : Prop where
  cl_Levels : Cls K C_Levels
  na_Levels_often : NoAttr K C_Levels "often"
  na_Levels_rises : NoAttr K C_Levels "rises"
  n_abs : mg "abs" = none
  n_all : mg "all" = none
  n_bool : mg "bool" = none
  n_divmod : mg "divmod" = none
  n_int : mg "int" = none
  n_isinstance : mg "isinstance" = none
  n_len : mg "len" = none
  n_list : mg "list" = none
  n_max : mg "max" = none
  n_min : mg "min" = none
  n_range : mg "range" = none
  n_repr : mg "repr" = none
  n_sorted : mg "sorted" = none
  n_sum : mg "sum" = none
  n_zip : mg "zip" = none
variable {P : Program} {w : World} {K : Frg} {mg : Str → Option Value} {base : Heap} {C_Levels : Addr}
local macro_rules | `(tactic| walk_at "dl ne_tac") => `(tactic| first | assumption | (apply Ne.symm; assumption) | exact ne_no (by assumption) (by assumption) | exact Ne.symm (ne_no (by assumption) (by assumption)) | exact ne_at (by assumption) (by assumption) (by intro z; cases z))
local macro_rules | `(tactic| walk_at "dl mu") => `(tactic| first | assumption | exact put_same | (refine put_at ?_ (by walk_at "dl ne_tac"); walk_at "dl mu") | (refine put_no ?_ (by walk_at "dl ne_tac"); walk_at "dl mu"))
local macro_rules | `(tactic| walk_at "dl szl") => `(tactic| first | decide | (rw [sizeLine_eq]; omega) | (simp only [List.length_cons, List.length_nil, List.length_append, List.length_map, List.length_range, List.length_replicate]; rw [sizeLine_eq]; omega))
local macro_rules | `(tactic| walk_at "dl num") => `(tactic| first | (refine ⟨?_, ?_, ?_⟩ <;> first | decide | omega) | (refine ⟨?_, ?_⟩ <;> first | decide | omega) | decide | (refine Or.inr ⟨?_, ?_⟩ <;> first | decide | omega) | (refine Or.inl ⟨?_, ?_⟩ <;> first | decide | omega) | omega)
local macro_rules | `(tactic| walk_at "dl fl") => `(tactic| (refine' fl_lt ?h ?g; (case h => (repeat (first | exact fl_nil | apply fl_put | apply fl_cons))); (case g => decide)))
local macro_rules | `(tactic| walk_at "dl lk") => `(tactic| first | assumption | rfl)
local macro_rules | `(tactic| walk_at "dl go") => `(tactic| dsimp only [wC, wCons, wNil, wLst, wTup, wOp, wUn, wChain, wB, wAndT, wOrT, wNotT, wIfE, wAndV, wOrV, wNotV, wNext, wSeq, wDrop, wRet, wRetN, wIf, wSet, wBreak, wCont, wNever, wgName, wgSub, wAsg, wPar, wIt, wItT, wRng1, fEq, fNe, wCl0, wClP, wClK, wClPK, wCall, wMeth, wMake, wYes, wDGet, wDIn, wDGet1, wDGet2, wDPut, wDDel, wDNewK, wDNewT, wFN, wML, wNoPart, wFld, wSetFld, wFldAug, fLenO, wPot, shutP, noX, noW, wSl, wFor, wWhile, wLc_eq, wPart, wItems, wCut_eq, wZip])
local macro_rules | `(tactic| walk_at "dl rd1") => `(tactic| first
  | ((with_reducible refine' rd_addll ?h ?_); (case h => walk_at "dl szl"))
  | ((with_reducible refine' rd_rg ?h ?_); (case h => walk_at "dl num"))
  | ((with_reducible refine' rd_reprI ?h ?_); (case h => omega))
  | ((with_reducible refine' rd_dicK ?g ?_); (case g => walk_at "dl mu"))
  | ((with_reducible refine' rd_dicT ?g ?_); (case g => walk_at "dl mu"))
  | ((with_reducible refine' rd_getI ?g ?_); (case g => walk_at "dl mu"); (try rw [valI_getD]))
  | ((with_reducible refine' rd_getP ?g ?_); (case g => walk_at "dl mu"); (try rw [valI_getD]))
  | ((with_reducible refine' rd_putI ?g ?h ?_); (case g => walk_at "dl mu"); (case h => first | assumption | omega))
  | ((with_reducible refine' rd_putP ?g ?h ?_); (case g => walk_at "dl mu"); (case h => first | assumption | omega))
  | ((with_reducible refine' rd_dropI ?g ?h ?_); (case g => walk_at "dl mu"); (case h => first | assumption | exact some_of_val (by omega)))
  | ((with_reducible refine' rd_dropP ?g ?h ?_); (case g => walk_at "dl mu"); (case h => first | assumption | exact some_of_val (by omega)))
  | ((with_reducible refine' rd_dgetI ?g ?h ?_); (case g => walk_at "dl mu"); (case h => assumption))
  | ((with_reducible refine' rd_dgetP ?g ?h ?_); (case g => walk_at "dl mu"); (case h => assumption))
  | ((with_reducible refine' rd_name ?h ?_); (case h => rfl))
  | (with_reducible refine' rd_bl ?_)
  | (with_reducible refine' rd_i0 ?_)
  | (with_reducible refine' rd_addi ?_)
  | (with_reducible refine' rd_newF ?_)
  | ((with_reducible refine' rd_len ?h ?_); (case h => rfl))
  | ((with_reducible refine' rd_len1 ?h ?_); (case h => rfl))
  | ((with_reducible refine' rd_sz ?h ?_); (case h => walk_at "dl szl"))
  | (with_reducible refine' rd_eqi ?_)
  | (with_reducible refine' rd_eqs ?_)
  | (with_reducible refine' rd_eqb ?_)
  | ((with_reducible refine' rd_ic ?h ?_); (case h => walk_at "dl num"))
  | ((with_reducible refine' rd_muli ?h ?_); (case h => walk_at "dl num"))
  | (with_reducible refine' rd_neg ?_)
  | ((with_reducible refine' rd_isN ?h ?_); (case h => rfl))
  | ((with_reducible refine' rd_ixl ?h ?_); (case h => first | assumption | rfl))
  | ((with_reducible refine' rd_ixt ?h ?_); (case h => first | assumption | rfl))
  | ((with_reducible refine' rd_ixa ?g ?h ?_); (case g => walk_at "dl mu"); (case h => first | assumption | rfl))
  | ((with_reducible refine' rd_ixr ?g ?h ?_); (case g => walk_at "dl mu"); (case h => first | assumption | rfl))
  | (with_reducible refine' rd_lenl ?_)
  | (with_reducible refine' rd_lent ?_)
  | ((with_reducible refine' rd_lena ?g ?_); (case g => walk_at "dl mu"))
  | ((with_reducible refine' rd_lenr ?g ?_); (case g => walk_at "dl mu"))
  | (with_reducible refine' rd_abs ?_)
  | (with_reducible refine' rd_ii ?_)
  | ((with_reducible refine' rd_divmod ?h ?_); (case h => first | assumption | walk_at "dl num"))
  | ((with_reducible refine' rd_isiI (b := true) ?h ?_); (case h => decide +kernel))
  | ((with_reducible refine' rd_isiI (b := false) ?h ?_); (case h => decide +kernel))
  | ((with_reducible refine' rd_isiB (b := true) ?h ?_); (case h => decide +kernel))
  | ((with_reducible refine' rd_isiB (b := false) ?h ?_); (case h => decide +kernel))
  | ((with_reducible refine' rd_isiS (b := true) ?h ?_); (case h => decide +kernel))
  | ((with_reducible refine' rd_isiS (b := false) ?h ?_); (case h => decide +kernel))
  | ((with_reducible refine' rd_isiN (b := true) ?h ?_); (case h => decide +kernel))
  | ((with_reducible refine' rd_isiN (b := false) ?h ?_); (case h => decide +kernel))
  | ((with_reducible refine' rd_isiT (b := true) ?h ?_); (case h => decide +kernel))
  | ((with_reducible refine' rd_isiT (b := false) ?h ?_); (case h => decide +kernel))
  | ((with_reducible refine' rd_isiL (b := true) ?h ?_); (case h => decide +kernel))
  | ((with_reducible refine' rd_isiL (b := false) ?h ?_); (case h => decide +kernel))
  | ((with_reducible refine' rd_set ?g ?h ?_); (case g => walk_at "dl mu"); (case h => rfl))
  | ((with_reducible refine' rd_gtup ?h ?_); (case h => rfl))
  | ((with_reducible refine' rd_gcons ?_); (try dsimp only [wgSub, wgName, wC]))
  | (with_reducible refine' rd_gnil ?_)
  | ((with_reducible refine' rd_fld ?g ?h ?_); (case g => walk_at "dl mu"); (case h => walk_at "dl lk"))
  | ((with_reducible refine' rd_setfld ?g ?h ?_); (case g => walk_at "dl mu"); (case h => first | decide | walk_at "dl fl"))
  | ((with_reducible refine' rd_meth ?g ?h ?_); (case g => walk_at "dl mu"); (case h => walk_at "dl lk"))
  | (with_reducible refine' rd_itl ?_)
  | ((with_reducible refine' rd_ita ?g ?_); (case g => walk_at "dl mu"))
  | ((with_reducible refine' rd_itr ?g ?_); (case g => walk_at "dl mu"))
  | ((with_reducible refine' rd_lsa ?g ?_); (case g => walk_at "dl mu"))
  | ((with_reducible refine' rd_rng ?h ?_); (case h => walk_at "dl num"))
  | ((with_reducible refine' rd_append ?g ?h ?_); (case g => walk_at "dl mu"); (case h => first | omega | (simp; omega)))
  | ((with_reducible refine' rd_rev ?g ?_); (case g => walk_at "dl mu")))
local macro_rules | `(tactic| walk_at "dl rd") => `(tactic| repeat (first | walk_at "dl rd1" | walk_at "dl go" | dsimp only [wgName, wPart]))
local macro_rules | `(tactic| walk_at "dl less") => `(tactic| first | assumption | exact Less.refl _ | (refine Less.put ?_ (by assumption); walk_at "dl less"))
local macro_rules | `(tactic| walk_at "dl put_eq") => `(tactic| (funext c; simp only [put]; repeat' split) <;> (first | rfl | (exfalso; omega) | (subst_vars; first | rfl | (exfalso; first | contradiction | omega))))
/-- the object at t: its two dicts at a and b -/
structure Lv (C : Addr) (μ : Mu) (t a b : Addr) (oft : Tb Sp2) (rs : Tb Int) : Prop where
  ob : μ t = some (.ins C [("often", .at a), ("rises", .at b)])
  of : μ a = some (.dT (enc kP oft))
  ri : μ b = some (.dK (enc kI rs))

theorem lk_often (a b : Addr) : List.lookup ("often" : Str) [(("often" : Str), D.at a), (("rises" : Str), D.at b)] = some (.at a) := by rfl
theorem lk_rises (a b : Addr) : List.lookup ("rises" : Str) [(("often" : Str), D.at a), (("rises" : Str), D.at b)] = some (.at b) := by rfl

/-- a table and its row, all new since μ0 -/
structure Tab (C : Addr) (μ0 μ : Mu) (t a b q : Addr) (S : List Sp2) : Prop where
  ex : ∃ oft rs, Lv C μ t a b oft rs ∧ Cnt oft S ∧ Rise rs S
  row : μ q = some (.lst (S.map spD))
  ok : ∀ s ∈ S, 0 ≤ s.1 ∧ 0 ≤ s.2 ∧ s.1 ≤ 10 ^ 31 ∧ s.2 ≤ 10 ^ 31
  f : μ0 t = none ∧ μ0 a = none ∧ μ0 b = none ∧ μ0 q = none
structure Two (C : Addr) (μ0 μ : Mu) (t a b q : _root_.Fin 2 → Addr) (S : _root_.Fin 2 → List Sp2) (n : Nat) : Prop where
  tab : ∀ j, Tab C μ0 μ (t j) (a j) (b j) (q j) (S j)
  inj : ∀ j k, j ≠ k → t j ≠ t k ∧ a j ≠ a k ∧ b j ≠ b k ∧ q j ≠ q k
  len : ∀ j, (S j).length ≤ n
  less : Less μ μ0

def sp_at : SpD := fun ds μ Q _ => match ds with
  | [.at a, .int k] => ∃ ns : List Int, μ a = some (.ro (ns.map .int)) ∧ 0 ≤ k ∧ ∀ z : Int, 0 ≤ z → Q (.int z) μ
  | _ => False
theorem sc_at : FnScope ["_law_script", "_law_k"] ["_law_script", "_law_k"] (defScope s_at) := ⟨rfl, rfl, rfl, by decide +kernel, rfl, by decide +kernel, by decide +kernel⟩
theorem g_at (T : Txt K mg C_Levels) (d_at : Def0 K mg "_law_at" s_at)  : CalD P w K mg base 1 "_law_at" s_at ["_law_script", "_law_k"] sp_at := by
  refine calD d_at sc_at (fun ds μ Q E h => by unfold sp_at at h; split at h <;> first | rfl | exact h.elim) ?_
  intro f cdv A outer s H EX ds μ Q E hg hr tk hp h
  obtain ⟨hu, hu1, hu2⟩ := rooms hr
  refine ⟨_, (jss_one (js_ret (je_if (jt_cmp od_lt (je_name 1) (je_cb cd_len T.n_len (ja_cons (je_name 0) ja_nil))) (je_cb cd_abs T.n_abs (ja_cons (je_ix id_ix (je_name 0) (je_name 1)) ja_nil)) je_int))), ?_⟩
  clear hr hg tk hp hu hu1 hu2
  unfold sp_at at h
  split at h
  case h_2 => exact h.elim
  rename_i a k
  obtain ⟨ns, ha, hk, q⟩ := h
  walk_at "dl go"
  walk_at "dl rd"
  refine rd_brD (fun hl => ?_) fun _ => wkR.same (q 0 (Int.le_refl 0))
  rw [List.length_map] at hl
  have e : atI (ns.map D.int) k = some (.int (ns[k.toNat]'(by omega))) := by
    have e1 : ixN (ns.map D.int).length k = some k.toNat := by
      unfold ixN
      rw [if_pos hk, if_pos (by rw [List.length_map]; exact hl)]
    unfold atI
    rw [e1]
    show (ns.map D.int)[k.toNat]? = _
    rw [List.getElem?_map, List.getElem?_eq_getElem (by omega)]
    rfl
  walk_at "dl rd"
  exact wkR.same (q _ (by split <;> omega))
def sp_pot : SpD := fun ds μ Q _ => match ds with
  | [.at a, .int k] => ∃ ns : List Int, μ a = some (.ro (ns.map .int)) ∧ 0 ≤ k ∧ k ≤ 100 ∧ ∀ p, μ p = none → Q (.at p) (put μ p .pot)
  | _ => False
theorem sc_pot : FnScope ["_law_script", "_law_k", "_law_cell"] ["_law_script", "_law_k"] (defScope s_pot) := ⟨rfl, rfl, rfl, by decide +kernel, rfl, by decide +kernel, by decide +kernel⟩
theorem g_pot (T : Txt K mg C_Levels) (d_pot : Def0 K mg "_law_pot" s_pot) (c_at : CalD P w K mg base 1 "_law_at" s_at ["_law_script", "_law_k"] sp_at) : CalD P w K mg base 2 "_law_pot" s_pot ["_law_script", "_law_k"] sp_pot := by
  refine calD d_pot sc_pot (fun ds μ Q E h => by unfold sp_pot at h; split at h <;> first | rfl | exact h.elim) ?_
  intro f cdv A outer s H EX ds μ Q E hg hr tk hp h
  obtain ⟨hu, hu1, hu2⟩ := rooms hr
  refine ⟨_, (jss_cons (js_set 2 (jf (ks := []) (n := 2) (idx := []) c_at hr (by decide) hg tkN (fun _ _ _ _ _ _ us ws h1 h2 => match us, ws, h1, h2 with | [_, _], [], _, _ => rfl) (jc_p (ja_cons (je_name 0) (ja_cons (je_name 1) ja_nil)))) sc_pot.nd)
      (jss_one (js_ret (je_lst true (ja_cons (je_cb (cd_max2 rfl) T.n_max (ja_cons je_int (ja_cons (je_op od_sub (je_name 2) (je_op od_pow je_int je_int)) ja_nil))) (ja_cons (je_op (od_add false) (je_op od_mod (je_op (od_mul false) (je_op (od_add false) (je_op od_mod (je_name 2) je_int) je_int) (je_op od_pow (je_op (od_add false) (je_name 1) je_int) je_int)) je_int) je_int) ja_nil)))))), ?_⟩
  clear hr hg tk hp hu hu1 hu2
  unfold sp_pot at h
  split at h
  case h_2 => exact h.elim
  rename_i a k
  obtain ⟨ns, ha, hk, hk2, q⟩ := h
  walk_at "dl go"
  walk_at "dl rd"
  refine ⟨ns, ha, hk, fun z hz => ?_⟩
  walk_at "dl rd"
  refine rd_newT fun l hl => ?_
  refine wkR.wk (Wkn.pot put_same ?_) ?_
  · exact ⟨by omega, by omega⟩
  · rw [put_put]
    exact wkR.same (q l hl)
def sp_draw : SpD := fun ds μ Q _ => match ds with
  | [.at p, .int m] => μ p = some .pot ∧ 0 < m ∧ m ≤ 10 ^ 30 ∧ ∀ d : Int, 0 ≤ d → d < m → Q (.int d) μ
  | _ => False
theorem sc_draw : FnScope ["_law_pot_here", "_law_many", "_law_digit"] ["_law_pot_here", "_law_many"] (defScope s_draw) := ⟨rfl, rfl, rfl, by decide +kernel, rfl, by decide +kernel, by decide +kernel⟩
theorem g_draw (T : Txt K mg C_Levels) (d_draw : Def0 K mg "_law_draw" s_draw)  : CalD P w K mg base 1 "_law_draw" s_draw ["_law_pot_here", "_law_many"] sp_draw := by
  refine calD d_draw sc_draw (fun ds μ Q E h => by unfold sp_draw at h; split at h <;> first | rfl | exact h.elim) ?_
  intro f cdv A outer s H EX ds μ Q E hg hr tk hp h
  obtain ⟨hu, hu1, hu2⟩ := rooms hr
  refine ⟨_, jss_pot (jss_cons (js_if (jt_cmp od_gt (je_ix id_ix (je_name 0) je_int) je_int) (jss_cons (js_asg (je_cb cd_divmod T.n_divmod (ja_cons (je_ix id_ix (je_name 0) je_int) (ja_cons (je_name 1) ja_nil))) (jg_tup 2 rfl (jgs_cons (jg_sub (je_name 0) je_int set_lst) (jgs_cons (jg_name 2 sc_draw.nd) jgs_nil))))
      (jss_one (js_ret (je_name 2)))) jss_nil)
      (jss_cons (js_asg (je_op od_mod (je_op (od_add false) (je_op (od_mul false) (je_ix id_ix (je_name 0) je_int) je_int) je_int) je_int) (jg_sub (je_name 0) je_int set_lst))
      (jss_one (js_ret (je_op od_mod (je_op od_fdiv (je_op od_mod (je_op (od_mul false) (je_ix id_ix (je_name 0) je_int) (je_ix id_ix (je_name 0) je_int)) je_int) je_int) (je_name 1)))))), ?_⟩
  clear hr hg tk hp hu hu1 hu2
  unfold sp_draw at h
  split at h
  case h_2 => exact h.elim
  rename_i p m
  obtain ⟨hp1, h0, h1, q⟩ := h
  have back : ∀ d : Int, 0 ≤ d → d < m → wkR Q (.int d) (put (put (put μ p (.lst [.int 0, .int 0])) p (.lst [.int 0, .int 0])) p .pot) := fun d a b => by
    rw [put_put, put_put, put_self hp1]
    exact wkR.same (q d a b)
  have back2 : ∀ (u v : O) (d : Int), 0 ≤ d → d < m → wkR Q (.int d) (put (put (put μ p u) p v) p .pot) := fun u v d a b => by
    have := back d a b
    rw [put_put, put_put] at this ⊢
    exact this
  walk_at "dl go"
  refine ⟨p, hp1, fun x y ok => ?_⟩
  walk_at "dl rd"
  refine rd_brD (fun hx => ?_) fun hx => ?_
  · have hdv : CDivW x m := divw h0 h1
    walk_at "dl rd"
    refine ⟨x / m, y, put_same, ok, back2 _ _ _ (Int.emod_nonneg _ (by omega)) (Int.emod_lt_of_pos _ h0)⟩
  · have oy := ok.1
    have oy2 := ok.2
    walk_at "dl rd"
    refine ⟨x, (y * 48271 + 20011) % 2147483647, put_same, ⟨by omega, by omega⟩, back2 _ _ _ (Int.emod_nonneg _ (by omega)) (Int.emod_lt_of_pos _ h0)⟩
def sp_far : SpD := fun ds μ Q _ => match ds with
  | [.at p] => μ p = some .pot ∧ ∀ f : Int, 0 ≤ f → f ≤ 10 ^ 30 → Q (.int f) μ
  | _ => False
theorem sc_far : FnScope ["_law_pot_here"] ["_law_pot_here"] (defScope s_far) := ⟨rfl, rfl, rfl, by decide +kernel, rfl, by decide +kernel, by decide +kernel⟩
theorem g_far (T : Txt K mg C_Levels) (d_far : Def0 K mg "_law_far" s_far) (c_draw : CalD P w K mg base 1 "_law_draw" s_draw ["_law_pot_here", "_law_many"] sp_draw) : CalD P w K mg base 2 "_law_far" s_far ["_law_pot_here"] sp_far := by
  refine calD d_far sc_far (fun ds μ Q E h => by unfold sp_far at h; split at h <;> first | rfl | exact h.elim) ?_
  intro f cdv A outer s H EX ds μ Q E hg hr tk hp h
  obtain ⟨hu, hu1, hu2⟩ := rooms hr
  refine ⟨_, (jss_one (js_ret (je_ix id_ix (je_lst false (ja_cons je_int (ja_cons (jf (ks := []) (n := 2) (idx := []) c_draw hr (by decide) hg tkN (fun _ _ _ _ _ _ us ws h1 h2 => match us, ws, h1, h2 with | [_, _], [], _, _ => rfl) (jc_p (ja_cons (je_name 0) (ja_cons (je_op od_pow je_int je_int) ja_nil)))) (ja_cons (jf (ks := []) (n := 2) (idx := []) c_draw hr (by decide) hg tkN (fun _ _ _ _ _ _ us ws h1 h2 => match us, ws, h1, h2 with | [_, _], [], _, _ => rfl) (jc_p (ja_cons (je_name 0) (ja_cons (je_op od_sub (je_op od_pow je_int je_int) je_int) ja_nil)))) ja_nil)))) (jf (ks := []) (n := 2) (idx := []) c_draw hr (by decide) hg tkN (fun _ _ _ _ _ _ us ws h1 h2 => match us, ws, h1, h2 with | [_, _], [], _, _ => rfl) (jc_p (ja_cons (je_name 0) (ja_cons je_int ja_nil))))))), ?_⟩
  clear hr hg tk hp hu hu1 hu2
  unfold sp_far at h
  split at h
  case h_2 => exact h.elim
  rename_i p
  obtain ⟨hp1, q⟩ := h
  walk_at "dl go"
  walk_at "dl rd"
  refine ⟨hp1, by decide, by decide, fun a a0 a1 => ?_⟩
  walk_at "dl rd"
  refine ⟨hp1, by decide, by decide, fun b b0 b1 => ?_⟩
  walk_at "dl rd"
  refine ⟨hp1, by decide, by decide, fun k k0 k1 => ?_⟩
  obtain ⟨f, hm, hf⟩ := ints_at (ns := [50, a, b]) k0 k1
  refine rd_ixl hf ?_
  have a2 : a < 10 ^ 15 := a1
  have b2 : b < 10 ^ 30 - 30 := b1
  simp only [List.mem_cons, List.not_mem_nil, or_false] at hm
  exact wkR.same (q f (by omega) (by omega))
def sp_Levels___init__ (C_Levels : Addr) : SpD := fun ds μ Q _ => match ds with
  | [.at t] => μ t = some (.ins C_Levels []) ∧ ∀ a b, μ a = none → μ b = none → b ≠ a → Lv C_Levels (put (put (put μ t (.ins C_Levels [("often", .at a), ("rises", .at b)])) a (.dT [])) b (.dK [])) t a b [] [] → Q .non (put (put (put μ t (.ins C_Levels [("often", .at a), ("rises", .at b)])) a (.dT [])) b (.dK []))
  | _ => False
theorem sc_Levels___init__ : FnScope ["self"] ["self"] (defScope s_Levels___init__) := ⟨rfl, rfl, rfl, by decide +kernel, rfl, by decide +kernel, by decide +kernel⟩
theorem g_Levels___init__ (T : Txt K mg C_Levels) (d_Levels___init__ : ∃ (f : Addr) (fd : FuncData), Fun K "__init__" "Levels.__init__" s_Levels___init__ f fd ∧ Mk K C_Levels f ∧ mg "Levels" = some (.ref C_Levels))  : MakD P w K mg base 1 "Levels" C_Levels "Levels.__init__" s_Levels___init__ ["self"] (sp_Levels___init__ C_Levels) := by
  refine makD d_Levels___init__ sc_Levels___init__ (fun ds μ Q E h => by unfold sp_Levels___init__ at h; split at h <;> first | rfl | exact h.elim) ?_
  intro f cdv A outer s H EX ds μ Q E hg hr tk hp h
  obtain ⟨hu, hu1, hu2⟩ := rooms hr
  refine ⟨_, (jss_cons (js_fld T.cl_Levels T.na_Levels_often (je_name 0) je_dnewT)
      (jss_one (js_fld T.cl_Levels T.na_Levels_rises (je_name 0) je_dnewK))), ?_⟩
  clear hr hg tk hp hu hu1 hu2
  unfold sp_Levels___init__ at h
  split at h
  case h_2 => exact h.elim
  rename_i t
  obtain ⟨ht, q⟩ := h
  walk_at "dl go"
  intro a ha
  have n1 : t ≠ a := ne_no ht ha
  walk_at "dl rd"
  intro b hb
  obtain ⟨n2, hb⟩ := no_put hb
  obtain ⟨n3, hb⟩ := no_put hb
  walk_at "dl rd"
  have e : put (put (put (put μ a (.dT [])) t (.ins C_Levels (putFD "often" (.at a) []))) b (.dK [])) t (.ins C_Levels (putFD "rises" (.at b) (putFD "often" (.at a) []))) = put (put (put μ t (.ins C_Levels [("often", .at a), ("rises", .at b)])) a (.dT [])) b (.dK []) := by
    rw [show putFD "rises" (.at b) (putFD "often" (.at a) []) = [(("often" : Str), D.at a), (("rises" : Str), D.at b)] from by rfl]
    walk_at "dl put_eq"
  rw [e]
  exact wkR.same (q a b ha hb n3 ⟨by rw [put_ne (Ne.symm n2), put_ne n1, put_same], by rw [put_ne (Ne.symm n3), put_same]; rfl, by rw [put_same]; rfl⟩)
def sp_end : SpD := fun ds μ Q _ => match ds with
  | [.at p, .int far] => μ p = some .pot ∧ 0 ≤ far ∧ far ≤ 10 ^ 30 ∧ ∀ f : Int, 0 ≤ f → f ≤ 2 * 10 ^ 30 → Q (.int f) μ
  | _ => False
theorem sc_end : FnScope ["_law_pot_here", "_law_far_here", "_law_near", "_law_beyond"] ["_law_pot_here", "_law_far_here"] (defScope s_end) := ⟨rfl, rfl, rfl, by decide +kernel, rfl, by decide +kernel, by decide +kernel⟩
theorem g_end (T : Txt K mg C_Levels) (d_end : Def0 K mg "_law_end" s_end) (c_draw : CalD P w K mg base 1 "_law_draw" s_draw ["_law_pot_here", "_law_many"] sp_draw) : CalD P w K mg base 2 "_law_end" s_end ["_law_pot_here", "_law_far_here"] sp_end := by
  refine calD d_end sc_end (fun ds μ Q E h => by unfold sp_end at h; split at h <;> first | rfl | exact h.elim) ?_
  intro f cdv A outer s H EX ds μ Q E hg hr tk hp h
  obtain ⟨hu, hu1, hu2⟩ := rooms hr
  refine ⟨_, (jss_cons (js_par 2 3 (ja_cons (jf (ks := []) (n := 2) (idx := []) c_draw hr (by decide) hg tkN (fun _ _ _ _ _ _ us ws h1 h2 => match us, ws, h1, h2 with | [_, _], [], _, _ => rfl) (jc_p (ja_cons (je_name 0) (ja_cons je_int ja_nil)))) (ja_cons (jf (ks := []) (n := 2) (idx := []) c_draw hr (by decide) hg tkN (fun _ _ _ _ _ _ us ws h1 h2 => match us, ws, h1, h2 with | [_, _], [], _, _ => rfl) (jc_p (ja_cons (je_name 0) (ja_cons je_int ja_nil)))) ja_nil)) sc_end.nd)
      (jss_one (js_ret (je_ix id_ix (je_lst false (ja_cons (jf (ks := []) (n := 2) (idx := []) c_draw hr (by decide) hg tkN (fun _ _ _ _ _ _ us ws h1 h2 => match us, ws, h1, h2 with | [_, _], [], _, _ => rfl) (jc_p (ja_cons (je_name 0) (ja_cons je_int ja_nil)))) (ja_cons (jf (ks := []) (n := 2) (idx := []) c_draw hr (by decide) hg tkN (fun _ _ _ _ _ _ us ws h1 h2 => match us, ws, h1, h2 with | [_, _], [], _, _ => rfl) (jc_p (ja_cons (je_name 0) (ja_cons je_int ja_nil)))) (ja_cons (je_name 2) (ja_cons (je_name 1) (ja_cons (je_op (od_add false) (je_name 1) je_int) (ja_cons (je_op (od_add false) (je_name 1) (je_name 3)) ja_nil))))))) (jf (ks := []) (n := 2) (idx := []) c_draw hr (by decide) hg tkN (fun _ _ _ _ _ _ us ws h1 h2 => match us, ws, h1, h2 with | [_, _], [], _, _ => rfl) (jc_p (ja_cons (je_name 0) (ja_cons je_int ja_nil)))))))), ?_⟩
  clear hr hg tk hp hu hu1 hu2
  unfold sp_end at h
  split at h
  case h_2 => exact h.elim
  rename_i p far
  obtain ⟨hp1, h0, h1, q⟩ := h
  walk_at "dl go"
  walk_at "dl rd"
  refine ⟨hp1, by decide, by decide, fun a a0 a1 => ?_⟩
  walk_at "dl rd"
  refine ⟨hp1, by decide, by decide, fun b b0 b1 => ?_⟩
  walk_at "dl rd"
  refine ⟨_, _, rfl, ?_⟩
  walk_at "dl rd"
  refine ⟨hp1, by decide, by decide, fun c c0 c1 => ?_⟩
  walk_at "dl rd"
  refine ⟨hp1, by decide, by decide, fun d d0 d1 => ?_⟩
  walk_at "dl rd"
  refine ⟨hp1, by decide, by decide, fun k k0 k1 => ?_⟩
  obtain ⟨f, hm, hf⟩ := ints_at (ns := [c, d, a, far, far + 1, far + b]) k0 k1
  refine rd_ixl hf ?_
  simp only [List.mem_cons, List.not_mem_nil, or_false] at hm
  exact wkR.same (q f (by omega) (by omega))
def sp_span : SpD := fun ds μ Q _ => match ds with
  | [.at p, .int far] => μ p = some .pot ∧ 0 ≤ far ∧ far ≤ 10 ^ 30 ∧ ∀ f g : Int, 0 ≤ f → f ≤ 10 ^ 31 → 0 ≤ g → g ≤ 10 ^ 31 → Q (.tup [.int f, .int g]) μ
  | _ => False
theorem sc_span : FnScope ["_law_pot_here", "_law_far_here", "_law_base", "_law_more", "_law_ends"] ["_law_pot_here", "_law_far_here"] (defScope s_span) := ⟨rfl, rfl, rfl, by decide +kernel, rfl, by decide +kernel, by decide +kernel⟩
theorem g_span (T : Txt K mg C_Levels) (d_span : Def0 K mg "_law_span" s_span) (c_end : CalD P w K mg base 2 "_law_end" s_end ["_law_pot_here", "_law_far_here"] sp_end) (c_draw : CalD P w K mg base 1 "_law_draw" s_draw ["_law_pot_here", "_law_many"] sp_draw) : CalD P w K mg base 3 "_law_span" s_span ["_law_pot_here", "_law_far_here"] sp_span := by
  refine calD d_span sc_span (fun ds μ Q E h => by unfold sp_span at h; split at h <;> first | rfl | exact h.elim) ?_
  intro f cdv A outer s H EX ds μ Q E hg hr tk hp h
  obtain ⟨hu, hu1, hu2⟩ := rooms hr
  refine ⟨_, (jss_cons (js_par 2 3 (ja_cons (jf (ks := []) (n := 2) (idx := []) c_end hr (by decide) hg tkN (fun _ _ _ _ _ _ us ws h1 h2 => match us, ws, h1, h2 with | [_, _], [], _, _ => rfl) (jc_p (ja_cons (je_name 0) (ja_cons (je_name 1) ja_nil)))) (ja_cons (jf (ks := []) (n := 2) (idx := []) c_draw hr (by decide) hg tkN (fun _ _ _ _ _ _ us ws h1 h2 => match us, ws, h1, h2 with | [_, _], [], _, _ => rfl) (jc_p (ja_cons (je_name 0) (ja_cons je_int ja_nil)))) ja_nil)) sc_span.nd)
      (jss_cons (js_set 4 (je_lst false (ja_cons (jf (ks := []) (n := 2) (idx := []) c_end hr (by decide) hg tkN (fun _ _ _ _ _ _ us ws h1 h2 => match us, ws, h1, h2 with | [_, _], [], _, _ => rfl) (jc_p (ja_cons (je_name 0) (ja_cons (je_name 1) ja_nil)))) (ja_cons (je_name 2) (ja_cons (je_op (od_add false) (je_name 2) je_int) (ja_cons (je_op (od_add false) (je_op (od_add false) (je_name 2) je_int) (je_name 3)) (ja_cons (je_cb (cd_max2 rfl) T.n_max (ja_cons je_int (ja_cons (je_op od_sub (je_op od_sub (je_name 2) je_int) (je_name 3)) ja_nil))) (ja_cons (je_op (od_add false) (je_name 2) je_int) ja_nil))))))) sc_span.nd)
      (jss_one (js_ret (je_tup (ja_cons (je_name 2) (ja_cons (je_ix id_ix (je_name 4) (jf (ks := []) (n := 2) (idx := []) c_draw hr (by decide) hg tkN (fun _ _ _ _ _ _ us ws h1 h2 => match us, ws, h1, h2 with | [_, _], [], _, _ => rfl) (jc_p (ja_cons (je_name 0) (ja_cons je_int ja_nil))))) ja_nil))))))), ?_⟩
  clear hr hg tk hp hu hu1 hu2
  unfold sp_span at h
  split at h
  case h_2 => exact h.elim
  rename_i p far
  obtain ⟨hp1, h0, h1, q⟩ := h
  walk_at "dl go"
  walk_at "dl rd"
  refine ⟨hp1, h0, h1, fun a a0 a1 => ?_⟩
  walk_at "dl rd"
  refine ⟨hp1, by decide, by decide, fun b b0 b1 => ?_⟩
  walk_at "dl rd"
  refine ⟨_, _, rfl, ?_⟩
  walk_at "dl rd"
  refine ⟨hp1, h0, h1, fun c c0 c1 => ?_⟩
  walk_at "dl rd"
  refine ⟨hp1, by decide, by decide, fun k k0 k1 => ?_⟩
  obtain ⟨f, hm, hf⟩ := ints_at (ns := [c, a, a + 1, a + 1 + b, if a - 1 - b > 0 then a - 1 - b else 0, a + 1]) k0 k1
  refine rd_ixl hf ?_
  walk_at "dl rd"
  have e : (if a - 1 - b > 0 then a - 1 - b else 0) ≤ a ∧ 0 ≤ (if a - 1 - b > 0 then a - 1 - b else 0) := by split <;> omega
  simp only [List.mem_cons, List.not_mem_nil, or_false] at hm
  exact wkR.same (q a f (by omega) (by omega) (by omega) (by omega))
def sp_Levels_spans (C_Levels : Addr) : SpD := fun ds μ Q _ => match ds with
  | [.at t] => ∃ a b oft rs S, Lv C_Levels μ t a b oft rs ∧ Cnt oft S ∧ S.length ≤ 1000 ∧ ∀ l, μ l = none → Q (.at l) (put μ l (.lst ((sortP S).map spD)))
  | _ => False
theorem sc_Levels_spans : FnScope ["self", "found", "span"] ["self"] (defScope s_Levels_spans) := ⟨rfl, rfl, rfl, by decide +kernel, rfl, by decide +kernel, by decide +kernel⟩
theorem g_Levels_spans (T : Txt K mg C_Levels) (d_Levels_spans : Met0 K C_Levels "spans" "Levels.spans" s_Levels_spans)  : MetD P w K mg base 1 C_Levels "spans" "Levels.spans" s_Levels_spans ["self"] (sp_Levels_spans C_Levels) := by
  refine metD d_Levels_spans sc_Levels_spans (fun ds μ Q E h => by unfold sp_Levels_spans at h; split at h <;> first | rfl | exact h.elim) ?_
  intro f cdv A outer s H EX ds μ Q E hg hr tk hp h
  obtain ⟨hu, hu1, hu2⟩ := rooms hr
  refine ⟨_, (jss_cons (js_set 1 (je_lst true ja_nil) sc_Levels_spans.nd)
      (jss_cons (js_for hp (ji_list (je_cb (cd_sortedT false rfl hu) T.n_sorted (ja_cons (je_fld T.cl_Levels T.na_Levels_often (je_name 0)) ja_nil))) (jg_name 2 sc_Levels_spans.nd) (jss_one (js_expr (je_ml PySem.F.slot_list_extend PySem.F.type_list_extend md_extend (je_name 1) (ja_cons (je_op (od_mul false) (je_lst false (ja_cons (je_name 2) ja_nil)) (je_dget hu1 (je_fld T.cl_Levels T.na_Levels_often (je_name 0)) (je_name 2))) ja_nil)))))
      (jss_one (js_ret (je_name 1))))), ?_⟩
  clear hr hg tk hp hu hu1 hu2
  unfold sp_Levels_spans at h
  split at h
  case h_2 => exact h.elim
  rename_i t
  obtain ⟨a, b, oft, rs, S, ⟨h1, h2, h3⟩, hc, hl, q⟩ := h
  have hsz := hc.size
  have tot : (spansOf oft).length = S.length := by rw [hc.spans, sortP_len]
  walk_at "dl go"
  walk_at "dl rd"
  refine rd_newT fun l hl0 => ?_
  walk_at "dl rd"
  refine rd_sortedP (by walk_at "dl mu") (by omega) ?_
  walk_at "dl rd"
  refine ⟨fun i ρ μ' => (∃ x, ρ = [some (.at t), some (.at l), x]) ∧ μ' = put μ l (.lst ((((sortP (oft.map (·.1))).take i).flatMap fun s => List.replicate (valI oft s).toNat s).map spD)), wk.same ⟨⟨_, rfl⟩, rfl⟩, fun _ _ _ _ _ => rfl, ?_, ?_⟩
  · rintro i d ρ μ' hd ⟨⟨x, rfl⟩, rfl⟩
    obtain ⟨s, hm, e, rfl⟩ := map_get hd
    have hm : s ∈ oft.map (·.1) := (sortP_perm _).mem_iff.mp hm
    have hg := hc.get hm
    have hv := hc.val s
    have hcs : S.count s ≤ S.length := List.count_le_length
    have pre : (((sortP (oft.map (·.1))).take (i + 1)).flatMap fun s => List.replicate (valI oft s).toNat s).length ≤ S.length := by
      rw [← tot]
      unfold spansOf
      conv => rhs; rw [← List.take_append_drop (i + 1) (sortP (oft.map (·.1)))]
      rw [List.flatMap_append, List.length_append]
      omega
    rw [take_succ_get e, List.flatMap_append, List.length_append] at pre
    have one : ([s].flatMap fun s => List.replicate (valI oft s).toNat s) = List.replicate (valI oft s).toNat s := by simp
    have e3 : (valI oft s).toNat = S.count s := by rw [hv]; rfl
    rw [one, List.length_replicate, e3] at pre
    have g2 : getI oft (s.1, s.2) = some (S.count s : Int) := hg
    show wName 1 _ _ _
    walk_at "dl rd"
    unfold spD
    walk_at "dl rd"
    have e4 : (List.replicate (Int.toNat (S.count s : Int)) [D.tup [.int s.1, .int s.2]]).flatten = (List.replicate (S.count s) s).map spD := by
      simp [spD]
    refine rd_mull ⟨by omega, by omega, by simp; rw [sizeLine_eq]; omega⟩ ?_
    rw [e4]
    walk_at "dl rd"
    refine rd_extl (by walk_at "dl mu") ?_ ?_
    · rw [List.length_map, List.length_map, List.length_replicate]
      omega
    · refine wk.same ⟨⟨_, rfl⟩, ?_⟩
      rw [put_put, take_succ_get e, List.flatMap_append, one, List.map_append, e3]
      rfl
  · rintro ρ μ' ⟨⟨x, rfl⟩, rfl⟩
    walk_at "dl rd"
    refine wkR.same ?_
    rw [List.length_map, List.take_length]
    have := q l hl0
    rw [← hc.spans] at this
    exact this
def sp_is_whole : SpD := fun ds μ Q _ => match ds with
  | [.int _] => Q (.bl true) μ
  | _ => False
theorem sc_is_whole : FnScope ["thing"] ["thing"] (defScope s_is_whole) := ⟨rfl, rfl, rfl, by decide +kernel, rfl, by decide +kernel, by decide +kernel⟩
theorem g_is_whole (T : Txt K mg C_Levels) (d_is_whole : Def0 K mg "is_whole" s_is_whole)  : CalD P w K mg base 1 "is_whole" s_is_whole ["thing"] sp_is_whole := by
  refine calD d_is_whole sc_is_whole (fun ds μ Q E h => by unfold sp_is_whole at h; split at h <;> first | rfl | exact h.elim) ?_
  intro f cdv A outer s H EX ds μ Q E hg hr tk hp h
  obtain ⟨hu, hu1, hu2⟩ := rooms hr
  refine ⟨_, (jss_one (js_ret (je_and (je_cb cd_isi T.n_isinstance (ja_cons (je_name 0) (ja_cons (je_ty T.n_int (by rfl)) ja_nil))) (je_one (je_not (je_cb cd_isi T.n_isinstance (ja_cons (je_name 0) (ja_cons (je_ty T.n_bool (by rfl)) ja_nil)))))))), ?_⟩
  clear hr hg tk hp hu hu1 hu2
  unfold sp_is_whole at h
  split at h
  case h_2 => exact h.elim
  rename_i i
  walk_at "dl go"
  walk_at "dl rd"
  refine rd_brT rfl ?_
  walk_at "dl rd"
  exact wkR.same h
def sp_is_count : SpD := fun ds μ Q _ => match ds with
  | [.int i] => Q (.bl (decide (0 ≤ i))) μ
  | _ => False
theorem sc_is_count : FnScope ["thing"] ["thing"] (defScope s_is_count) := ⟨rfl, rfl, rfl, by decide +kernel, rfl, by decide +kernel, by decide +kernel⟩
theorem g_is_count (T : Txt K mg C_Levels) (d_is_count : Def0 K mg "is_count" s_is_count) (c_is_whole : CalD P w K mg base 1 "is_whole" s_is_whole ["thing"] sp_is_whole) : CalD P w K mg base 2 "is_count" s_is_count ["thing"] sp_is_count := by
  refine calD d_is_count sc_is_count (fun ds μ Q E h => by unfold sp_is_count at h; split at h <;> first | rfl | exact h.elim) ?_
  intro f cdv A outer s H EX ds μ Q E hg hr tk hp h
  obtain ⟨hu, hu1, hu2⟩ := rooms hr
  refine ⟨_, (jss_one (js_ret (je_and (jf (ks := []) (n := 1) (idx := []) c_is_whole hr (by decide) hg tkN (fun _ _ _ _ _ _ us ws h1 h2 => match us, ws, h1, h2 with | [_], [], _, _ => rfl) (jc_p (ja_cons (je_name 0) ja_nil))) (je_one (je_cmp od_ge (je_name 0) je_int))))), ?_⟩
  clear hr hg tk hp hu hu1 hu2
  unfold sp_is_count at h
  split at h
  case h_2 => exact h.elim
  rename_i i
  walk_at "dl go"
  walk_at "dl rd"
  show Br true _ _
  refine rd_brT rfl ?_
  walk_at "dl rd"
  exact wkR.same h
def sp_want_count : SpD := fun ds μ Q _ => match ds with
  | [.int i] => 0 ≤ i ∧ Q .non μ
  | _ => False
theorem sc_want_count : FnScope ["level"] ["level"] (defScope s_want_count) := ⟨rfl, rfl, rfl, by decide +kernel, rfl, by decide +kernel, by decide +kernel⟩
theorem g_want_count (T : Txt K mg C_Levels) (d_want_count : Def0 K mg "want_count" s_want_count) (c_is_count : CalD P w K mg base 2 "is_count" s_is_count ["thing"] sp_is_count) : CalD P w K mg base 3 "want_count" s_want_count ["level"] sp_want_count := by
  refine calD d_want_count sc_want_count (fun ds μ Q E h => by unfold sp_want_count at h; split at h <;> first | rfl | exact h.elim) ?_
  intro f cdv A outer s H EX ds μ Q E hg hr tk hp h
  obtain ⟨hu, hu1, hu2⟩ := rooms hr
  refine ⟨_, (jss_one (js_if (jt_not (jt_val (jf (ks := []) (n := 1) (idx := []) c_is_count hr (by decide) hg tkN (fun _ _ _ _ _ _ us ws h1 h2 => match us, ws, h1, h2 with | [_], [], _, _ => rfl) (jc_p (ja_cons (je_name 0) ja_nil))))) (jss_one js_never) jss_nil)), ?_⟩
  clear hr hg tk hp hu hu1 hu2
  unfold sp_want_count at h
  split at h
  case h_2 => exact h.elim
  rename_i i
  obtain ⟨h0, q⟩ := h
  walk_at "dl go"
  walk_at "dl rd"
  show Br (!decide (0 ≤ i)) _ _
  refine rd_brF (by simp [h0]) ?_
  exact wkR.same q
def sp_Levels_add_rise (C_Levels : Addr) : SpD := fun ds μ Q _ => match ds with
  | [.at t, .int e, .int more] => ∃ a b oft rs, Lv C_Levels μ t a b oft rs ∧ rs.length ≤ 100000 ∧ more ≠ 0 ∧ Q .non (put μ b (.dK (enc kI (bump rs e more))))
  | _ => False
theorem sc_Levels_add_rise : FnScope ["self", "level", "more", "found"] ["self", "level", "more"] (defScope s_Levels_add_rise) := ⟨rfl, rfl, rfl, by decide +kernel, rfl, by decide +kernel, by decide +kernel⟩
theorem g_Levels_add_rise (T : Txt K mg C_Levels) (d_Levels_add_rise : Met0 K C_Levels "add_rise" "Levels.add_rise" s_Levels_add_rise)  : MetD P w K mg base 1 C_Levels "add_rise" "Levels.add_rise" s_Levels_add_rise ["self", "level", "more"] (sp_Levels_add_rise C_Levels) := by
  refine metD d_Levels_add_rise sc_Levels_add_rise (fun ds μ Q E h => by unfold sp_Levels_add_rise at h; split at h <;> first | rfl | exact h.elim) ?_
  intro f cdv A outer s H EX ds μ Q E hg hr tk hp h
  obtain ⟨hu, hu1, hu2⟩ := rooms hr
  refine ⟨_, (jss_cons (js_set 3 (je_op (od_add false) (je_dget2 hu1 (je_fld T.cl_Levels T.na_Levels_rises (je_name 0)) (je_name 1) je_int ⟨by rfl, by rfl, by rfl, by rfl⟩) (je_name 2)) sc_Levels_add_rise.nd)
      (jss_one (js_if (jt_cmp (od_eq hu) (je_name 3) je_int) (jss_one (js_ddel hu2 (je_fld T.cl_Levels T.na_Levels_rises (je_name 0)) (je_name 1))) (jss_one (js_dput hu1 (je_fld T.cl_Levels T.na_Levels_rises (je_name 0)) (je_name 1) (je_name 3)))))), ?_⟩
  clear hr hg tk hp hu hu1 hu2
  unfold sp_Levels_add_rise at h
  split at h
  case h_2 => exact h.elim
  rename_i t e more
  obtain ⟨a, b, oft, rs, ⟨h1, h2, h3⟩, hl, hm, q⟩ := h
  unfold bump at q
  walk_at "dl go"
  walk_at "dl rd"
  refine rd_brD (fun hf => ?_) fun hf => ?_
  · rw [if_pos hf] at q
    walk_at "dl rd"
    exact wkR.same q
  · rw [if_neg hf] at q
    walk_at "dl rd"
    exact wkR.same q
def sp_Levels_add_span (C_Levels : Addr) : SpD := fun ds μ Q _ => match ds with
  | [.at t, .int lo, .int hi, .int more] => ∃ a b oft rs, Lv C_Levels μ t a b oft rs ∧ oft.length ≤ 10000 ∧ rs.length ≤ 10000 ∧ more ≠ 0 ∧ Q .non (put (put μ a (.dT (enc kP (bump oft (lo, hi) more)))) b (.dK (enc kI (if lo < hi then bump (bump rs lo more) hi (-more) else rs))))
  | _ => False
theorem sc_Levels_add_span : FnScope ["self", "low", "high", "more", "span", "found"] ["self", "low", "high", "more"] (defScope s_Levels_add_span) := ⟨rfl, rfl, rfl, by decide +kernel, rfl, by decide +kernel, by decide +kernel⟩
theorem g_Levels_add_span (T : Txt K mg C_Levels) (d_Levels_add_span : Met0 K C_Levels "add_span" "Levels.add_span" s_Levels_add_span) (c_Levels_add_rise : MetD P w K mg base 1 C_Levels "add_rise" "Levels.add_rise" s_Levels_add_rise ["self", "level", "more"] (sp_Levels_add_rise C_Levels)) : MetD P w K mg base 2 C_Levels "add_span" "Levels.add_span" s_Levels_add_span ["self", "low", "high", "more"] (sp_Levels_add_span C_Levels) := by
  refine metD d_Levels_add_span sc_Levels_add_span (fun ds μ Q E h => by unfold sp_Levels_add_span at h; split at h <;> first | rfl | exact h.elim) ?_
  intro f cdv A outer s H EX ds μ Q E hg hr tk hp h
  obtain ⟨hu, hu1, hu2⟩ := rooms hr
  refine ⟨_, (jss_cons (js_set 4 (je_tup (ja_cons (je_name 1) (ja_cons (je_name 2) ja_nil))) sc_Levels_add_span.nd)
      (jss_cons (js_set 5 (je_op (od_add false) (je_dget2 hu1 (je_fld T.cl_Levels T.na_Levels_often (je_name 0)) (je_name 4) je_int ⟨by rfl, by rfl, by rfl, by rfl⟩) (je_name 3)) sc_Levels_add_span.nd)
      (jss_cons (js_if (jt_cmp (od_eq hu) (je_name 5) je_int) (jss_one (js_ddel hu2 (je_fld T.cl_Levels T.na_Levels_often (je_name 0)) (je_name 4))) (jss_one (js_dput hu1 (je_fld T.cl_Levels T.na_Levels_often (je_name 0)) (je_name 4) (je_name 5))))
      (jss_one (js_if (jt_cmp od_lt (je_name 1) (je_name 2)) (jss_cons (js_expr (jm (ks := []) (n := 3) (idx := []) (je_name 0) T.cl_Levels c_Levels_add_rise hr (by decide) hg tkN (fun _ _ _ _ _ _ us ws h1 h2 => match us, ws, h1, h2 with | [_, _, _], [], _, _ => rfl) (jc_p (ja_cons (je_name 1) (ja_cons (je_name 3) ja_nil)))))
      (jss_one (js_expr (jm (ks := []) (n := 3) (idx := []) (je_name 0) T.cl_Levels c_Levels_add_rise hr (by decide) hg tkN (fun _ _ _ _ _ _ us ws h1 h2 => match us, ws, h1, h2 with | [_, _, _], [], _, _ => rfl) (jc_p (ja_cons (je_name 2) (ja_cons (je_un ud_neg (je_name 3)) ja_nil))))))) jss_nil))))), ?_⟩
  clear hr hg tk hp hu hu1 hu2
  unfold sp_Levels_add_span at h
  split at h
  case h_2 => exact h.elim
  rename_i t lo hi more
  obtain ⟨a, b, oft, rs, ⟨h1, h2, h3⟩, hl, hl2, hm, q⟩ := h
  walk_at "dl go"
  walk_at "dl rd"
  refine rd_brD (fun hf => ?_) fun hf => ?_
  · have e : bump oft (lo, hi) more = dropI oft (lo, hi) := by unfold bump; rw [if_pos hf]
    rw [e] at q
    walk_at "dl rd"
    refine rd_brD (fun hlt => ?_) fun hlt => ?_
    · rw [if_pos hlt] at q
      walk_at "dl rd"
      refine ⟨a, b, _, rs, ⟨by walk_at "dl mu", by walk_at "dl mu", by walk_at "dl mu"⟩, by omega, hm, ?_⟩
      walk_at "dl rd"
      refine ⟨a, b, _, _, ⟨by walk_at "dl mu", by walk_at "dl mu", by walk_at "dl mu"⟩, ?_, by omega, ?_⟩
      · have := bump_le rs lo more
        omega
      · rw [put_put]
        exact wkR.same q
    · rw [if_neg hlt, put_self (by walk_at "dl mu")] at q
      exact wkR.same q
  · have e : bump oft (lo, hi) more = putI oft (lo, hi) (valI oft (lo, hi) + more) := by unfold bump; rw [if_neg hf]
    rw [e] at q
    walk_at "dl rd"
    refine rd_brD (fun hlt => ?_) fun hlt => ?_
    · rw [if_pos hlt] at q
      walk_at "dl rd"
      refine ⟨a, b, _, rs, ⟨by walk_at "dl mu", by walk_at "dl mu", by walk_at "dl mu"⟩, by omega, hm, ?_⟩
      walk_at "dl rd"
      refine ⟨a, b, _, _, ⟨by walk_at "dl mu", by walk_at "dl mu", by walk_at "dl mu"⟩, ?_, by omega, ?_⟩
      · have := bump_le rs lo more
        omega
      · rw [put_put]
        exact wkR.same q
    · rw [if_neg hlt, put_self (by walk_at "dl mu")] at q
      exact wkR.same q
def sp_Levels_put_span (C_Levels : Addr) : SpD := fun ds μ Q _ => match ds with
  | [.at t, .int lo, .int hi] => ∃ a b oft rs, Lv C_Levels μ t a b oft rs ∧ oft.length ≤ 10000 ∧ rs.length ≤ 10000 ∧ 0 ≤ lo ∧ 0 ≤ hi ∧ Q .non (put (put μ a (.dT (enc kP (bump oft (lo, hi) 1)))) b (.dK (enc kI (if lo < hi then bump (bump rs lo 1) hi (-1) else rs))))
  | _ => False
theorem sc_Levels_put_span : FnScope ["self", "low", "high"] ["self", "low", "high"] (defScope s_Levels_put_span) := ⟨rfl, rfl, rfl, by decide +kernel, rfl, by decide +kernel, by decide +kernel⟩
theorem g_Levels_put_span (T : Txt K mg C_Levels) (d_Levels_put_span : Met0 K C_Levels "put_span" "Levels.put_span" s_Levels_put_span) (c_want_count : CalD P w K mg base 3 "want_count" s_want_count ["level"] sp_want_count) (c_Levels_add_span : MetD P w K mg base 2 C_Levels "add_span" "Levels.add_span" s_Levels_add_span ["self", "low", "high", "more"] (sp_Levels_add_span C_Levels)) : MetD P w K mg base 4 C_Levels "put_span" "Levels.put_span" s_Levels_put_span ["self", "low", "high"] (sp_Levels_put_span C_Levels) := by
  refine metD d_Levels_put_span sc_Levels_put_span (fun ds μ Q E h => by unfold sp_Levels_put_span at h; split at h <;> first | rfl | exact h.elim) ?_
  intro f cdv A outer s H EX ds μ Q E hg hr tk hp h
  obtain ⟨hu, hu1, hu2⟩ := rooms hr
  refine ⟨_, (jss_cons (js_expr (jf (ks := []) (n := 1) (idx := []) c_want_count hr (by decide) hg tkN (fun _ _ _ _ _ _ us ws h1 h2 => match us, ws, h1, h2 with | [_], [], _, _ => rfl) (jc_p (ja_cons (je_name 1) ja_nil))))
      (jss_cons (js_expr (jf (ks := []) (n := 1) (idx := []) c_want_count hr (by decide) hg tkN (fun _ _ _ _ _ _ us ws h1 h2 => match us, ws, h1, h2 with | [_], [], _, _ => rfl) (jc_p (ja_cons (je_name 2) ja_nil))))
      (jss_one (js_expr (jm (ks := []) (n := 4) (idx := []) (je_name 0) T.cl_Levels c_Levels_add_span hr (by decide) hg tkN (fun _ _ _ _ _ _ us ws h1 h2 => match us, ws, h1, h2 with | [_, _, _, _], [], _, _ => rfl) (jc_p (ja_cons (je_name 1) (ja_cons (je_name 2) (ja_cons je_int ja_nil))))))))), ?_⟩
  clear hr hg tk hp hu hu1 hu2
  unfold sp_Levels_put_span at h
  split at h
  case h_2 => exact h.elim
  rename_i t lo hi
  obtain ⟨a, b, oft, rs, L, hl, hl2, h0, h1, q⟩ := h
  walk_at "dl go"
  walk_at "dl rd"
  refine ⟨h0, ?_⟩
  walk_at "dl rd"
  refine ⟨h1, ?_⟩
  have ho := L.ob
  walk_at "dl rd"
  refine ⟨a, b, oft, rs, L, hl, hl2, by decide, wkR.same q⟩
def sp_put (C_Levels : Addr) : SpD := fun ds μ Q _ => match ds with
  | [.at t, .tup [.int lo, .int hi], .bl _] => ∃ a b oft rs, Lv C_Levels μ t a b oft rs ∧ oft.length ≤ 10000 ∧ rs.length ≤ 10000 ∧ 0 ≤ lo ∧ 0 ≤ hi ∧ Q .non (put (put μ a (.dT (enc kP (bump oft (lo, hi) 1)))) b (.dK (enc kI (riseOf rs (lo, hi)))))
  | _ => False
theorem sc_put : FnScope ["_law_table", "_law_span_here", "_law_named", "_law_base", "_law_top"] ["_law_table", "_law_span_here", "_law_named"] (defScope s_put) := ⟨rfl, rfl, rfl, by decide +kernel, rfl, by decide +kernel, by decide +kernel⟩
theorem g_put (T : Txt K mg C_Levels) (d_put : Def0 K mg "_law_put" s_put) (c_Levels_put_span : MetD P w K mg base 4 C_Levels "put_span" "Levels.put_span" s_Levels_put_span ["self", "low", "high"] (sp_Levels_put_span C_Levels)) : CalD P w K mg base 5 "_law_put" s_put ["_law_table", "_law_span_here", "_law_named"] (sp_put C_Levels) := by
  refine calD d_put sc_put (fun ds μ Q E h => by unfold sp_put at h; split at h <;> first | rfl | exact h.elim) ?_
  intro f cdv A outer s H EX ds μ Q E hg hr tk hp h
  obtain ⟨hu, hu1, hu2⟩ := rooms hr
  refine ⟨_, (jss_cons (js_asg (je_name 1) (jg_tup 2 rfl (jgs_cons (jg_name 3 sc_put.nd) (jgs_cons (jg_name 4 sc_put.nd) jgs_nil))))
      (jss_cons (js_if (jt_val (je_name 2)) (jss_one (js_ret (jm (ks := ["high", "low"]) (n := 1) (idx := [1, 0]) (je_name 0) T.cl_Levels c_Levels_put_span hr (by decide) hg tkN (fun _ _ _ _ _ _ us ws h1 h2 => match us, ws, h1, h2 with | [_], [_, _], _, _ => rfl) (jc_k (jk_cons (je_name 4) (jk_cons (je_name 3) jk_nil)))))) jss_nil)
      (jss_one (js_ret (jm (ks := []) (n := 3) (idx := []) (je_name 0) T.cl_Levels c_Levels_put_span hr (by decide) hg tkN (fun _ _ _ _ _ _ us ws h1 h2 => match us, ws, h1, h2 with | [_, _, _], [], _, _ => rfl) (jc_p (ja_cons (je_name 3) (ja_cons (je_name 4) ja_nil)))))))), ?_⟩
  clear hr hg tk hp hu hu1 hu2
  unfold sp_put at h
  split at h
  case h_2 => exact h.elim
  rename_i t lo hi nm
  obtain ⟨a, b, oft, rs, L, hl, hl2, h0, h1, q⟩ := h
  have ho := L.ob
  walk_at "dl go"
  walk_at "dl rd"
  cases nm with
  | true =>
    refine rd_brT rfl ?_
    walk_at "dl rd"
    exact ⟨a, b, oft, rs, L, hl, hl2, h0, h1, wkR.same q⟩
  | false =>
    refine rd_brF rfl ?_
    walk_at "dl rd"
    exact ⟨a, b, oft, rs, L, hl, hl2, h0, h1, wkR.same q⟩
def sp_levels : SpD := fun ds μ Q _ => match ds with
  | [.at p, .at r] => ∃ S : List Sp2, μ p = some .pot ∧ μ r = some (.lst (S.map spD)) ∧ S.length ≤ 1000 ∧ (∀ s ∈ S, 0 ≤ s.1 ∧ 0 ≤ s.2) ∧ ∀ ls : List Int, (∀ x ∈ ls, 0 ≤ x) → ls.length ≤ 10000 → Q (.lst (ls.map .int)) μ
  | _ => False
theorem sc_levels : FnScope ["_law_pot_here", "_law_some", "_law_found", "_law_base", "_law_top"] ["_law_pot_here", "_law_some"] (defScope s_levels) := ⟨rfl, rfl, rfl, by decide +kernel, rfl, by decide +kernel, by decide +kernel⟩
theorem g_levels (T : Txt K mg C_Levels) (d_levels : Def0 K mg "_law_levels" s_levels) (c_draw : CalD P w K mg base 1 "_law_draw" s_draw ["_law_pot_here", "_law_many"] sp_draw) : CalD P w K mg base 2 "_law_levels" s_levels ["_law_pot_here", "_law_some"] sp_levels := by
  refine calD d_levels sc_levels (fun ds μ Q E h => by unfold sp_levels at h; split at h <;> first | rfl | exact h.elim) ?_
  intro f cdv A outer s H EX ds μ Q E hg hr tk hp h
  obtain ⟨hu, hu1, hu2⟩ := rooms hr
  refine ⟨_, (jss_cons (js_set 2 (je_op (od_add true) (je_listRg false T.n_list T.n_range je_int) (je_lst false (ja_cons (jf (ks := []) (n := 2) (idx := []) c_draw hr (by decide) hg tkN (fun _ _ _ _ _ _ us ws h1 h2 => match us, ws, h1, h2 with | [_, _], [], _, _ => rfl) (jc_p (ja_cons (je_name 0) (ja_cons je_int ja_nil)))) (ja_cons (jf (ks := []) (n := 2) (idx := []) c_draw hr (by decide) hg tkN (fun _ _ _ _ _ _ us ws h1 h2 => match us, ws, h1, h2 with | [_, _], [], _, _ => rfl) (jc_p (ja_cons (je_name 0) (ja_cons (je_op od_pow je_int je_int) ja_nil)))) ja_nil)))) sc_levels.nd)
      (jss_cons (js_for hp (ji_list (je_slice false (je_name 1) (jo_some (je_un ud_neg je_int)) jo_none)) (jg_tup 2 rfl (jgs_cons (jg_name 3 sc_levels.nd) (jgs_cons (jg_name 4 sc_levels.nd) jgs_nil))) (jss_one (js_expr (je_ml PySem.F.slot_list_extend PySem.F.type_list_extend md_extend (je_name 2) (ja_cons (je_lst false (ja_cons (je_name 3) (ja_cons (je_name 4) (ja_cons (je_op (od_add false) (je_name 3) je_int) (ja_cons (je_op (od_add false) (je_name 4) je_int) (ja_cons (je_cb (cd_max2 rfl) T.n_max (ja_cons je_int (ja_cons (je_op od_sub (je_name 3) je_int) ja_nil))) (ja_cons (je_cb (cd_max2 rfl) T.n_max (ja_cons je_int (ja_cons (je_op od_sub (je_name 4) je_int) ja_nil))) ja_nil))))))) ja_nil)))))
      (jss_one (js_ret (je_name 2))))), ?_⟩
  clear hr hg tk hp hu hu1 hu2
  unfold sp_levels at h
  split at h
  case h_2 => exact h.elim
  rename_i p r
  obtain ⟨S, hp1, hr, hl, hS, q⟩ := h
  walk_at "dl go"
  walk_at "dl rd"
  refine ⟨hp1, by decide, by decide, fun x x0 x1 => ?_⟩
  walk_at "dl rd"
  refine ⟨hp1, by decide, by decide, fun y y0 y1 => ?_⟩
  walk_at "dl rd"
  refine rd_newT fun l hl0 => ?_
  walk_at "dl rd"
  have e0 : (List.range (Int.toNat 14)).map (fun i : Nat => D.int i) ++ [.int x, .int y] = ((List.range 14).map (fun i : Nat => (i : Int)) ++ [x, y]).map .int := by
    rw [List.map_append, List.map_map]
    rfl
  rw [e0]
  have hcl := cut_len (ds := S.map spD) (lo := some (-6)) (hi := none)
  rw [List.length_map] at hcl
  refine ⟨fun i ρ μ' => ∃ (ls : List Int) (u v : Option D), ρ = [some (.at p), some (.at r), some (.at l), u, v] ∧ μ' = put μ l (.lst (ls.map .int)) ∧ (∀ x ∈ ls, 0 ≤ x) ∧ ls.length ≤ 16 + 6 * i, wk.same ⟨_, _, _, rfl, rfl, ?_, ?_⟩, fun _ _ _ _ _ => rfl, ?_, ?_⟩
  · intro z hz
    simp at hz
    omega
  · simp
  · rintro i d ρ μ' hd ⟨ls, u, v, rfl, rfl, h0, hn⟩
    have hi := (List.getElem?_eq_some_iff.mp hd).1
    obtain ⟨s, hs, rfl⟩ := mem_cut (List.mem_of_getElem? hd)
    have hs2 := hS s hs
    unfold spD
    walk_at "dl rd"
    refine rd_extl (by walk_at "dl mu") ?_ ?_
    · simp
      omega
    · refine wk.same ⟨ls ++ [s.1, s.2, s.1 + 1, s.2 + 1, (if s.1 - 1 > 0 then s.1 - 1 else 0), (if s.2 - 1 > 0 then s.2 - 1 else 0)], _, _, rfl, ?_, ?_, ?_⟩
      · rw [put_put, List.map_append]
        rfl
      · intro z hz
        rcases List.mem_append.mp hz with hz | hz
        · exact h0 z hz
        · have e1 : 0 ≤ (if s.1 - 1 > 0 then s.1 - 1 else 0) := by split <;> omega
          have e2 : 0 ≤ (if s.2 - 1 > 0 then s.2 - 1 else 0) := by split <;> omega
          simp only [List.mem_cons, List.not_mem_nil, or_false] at hz
          omega
      · simp
        omega
  · rintro ρ μ' ⟨ls, u, v, rfl, rfl, h0, hn⟩
    walk_at "dl rd"
    exact .froze ((Less.refl μ).put hl0) put_same hl0 (q ls h0 (by omega))
def sp_crossed : SpD := fun ds μ Q _ => match ds with
  | [.at r, .int m] => ∃ S : List Sp2, μ r = some (.lst (S.map spD)) ∧ S.length ≤ 1000 ∧ Q (.int (S.filter (crossP m)).length) μ
  | _ => False
theorem sc_crossed : FnScope ["_law_some", "_law_mark", "_law_span_here"] ["_law_some", "_law_mark"] (defScope s_crossed) := ⟨rfl, rfl, rfl, by decide +kernel, rfl, by decide +kernel, by decide +kernel⟩
theorem g_crossed (T : Txt K mg C_Levels) (d_crossed : Def0 K mg "_law_crossed" s_crossed)  : CalD P w K mg base 1 "_law_crossed" s_crossed ["_law_some", "_law_mark"] sp_crossed := by
  refine calD d_crossed sc_crossed (fun ds μ Q E h => by unfold sp_crossed at h; split at h <;> first | rfl | exact h.elim) ?_
  intro f cdv A outer s H EX ds μ Q E hg hr tk hp h
  obtain ⟨hu, hu1, hu2⟩ := rooms hr
  refine ⟨_, (jss_one (js_ret (je_cb cd_len T.n_len (ja_cons (je_lc (own := [("_law_span_here", 2)]) (g := gName 2) sc_crossed.nd (ji_list (je_name 0)) (blkOk_by (own := [("_law_span_here", 2)]) (sc := defScope s_crossed) (N := ["_law_some", "_law_mark", "_law_span_here"]) (by decide +kernel)) (ct_name 2) (fun _ _ _ _ _ => (pg_name (i := 2) sc_crossed.nd rfl (by first | exact Or.inl rfl | exact Or.inr rfl))) (fun _ _ _ _ _ => (jts_one (jt_chain od_le od_lt (je_ix id_ix (je_name 2) je_int) (je_name 1) (je_ix id_ix (je_name 2) je_int)))) (fun _ _ _ _ _ => (je_name 2))) ja_nil)))), ?_⟩
  clear hr hg tk hp hu hu1 hu2
  unfold sp_crossed at h
  split at h
  case h_2 => exact h.elim
  rename_i r m
  obtain ⟨S, hr, hl, q⟩ := h
  walk_at "dl go"
  walk_at "dl rd"
  refine lc_pure (xs := S) (f := spD) (h := spD) (p := crossP m) ?_ ?_ ?_ ?_
  · omega
  · exact fun L acc hL => Or.inl (by walk_at "dl mu")
  · intro s hs L acc K1 K2 hL k1 k2
    walk_at "dl rd"
    unfold spD
    walk_at "dl rd"
    refine rd_brD (fun hh => ?_) fun hh => ?_
    · walk_at "dl rd"
      refine rd_brD (fun hg => ?_) fun hg => ?_
      · walk_at "dl rd"
        exact k1 (by simp [crossP, hh, hg])
      · exact k2 (by simp [crossP, hh, hg])
    · exact rd_brF rfl (k2 (by simp [crossP, hh]))
  · walk_at "dl rd"
    rw [List.length_map]
    exact wkR.same q
def sp_Levels_crossing (C_Levels : Addr) : SpD := fun ds μ Q _ => match ds with
  | [.at t, .int lev] => ∃ a b oft rs, Lv C_Levels μ t a b oft rs ∧ rs.length ≤ 10000 ∧ 0 ≤ lev ∧ Q (.int (wsum (fun e => decide (e ≤ lev)) rs)) μ
  | _ => False
theorem sc_Levels_crossing : FnScope ["self", "level", "end", "rise"] ["self", "level"] (defScope s_Levels_crossing) := ⟨rfl, rfl, rfl, by decide +kernel, rfl, by decide +kernel, by decide +kernel⟩
theorem g_Levels_crossing (T : Txt K mg C_Levels) (d_Levels_crossing : Met0 K C_Levels "crossing" "Levels.crossing" s_Levels_crossing) (c_want_count : CalD P w K mg base 3 "want_count" s_want_count ["level"] sp_want_count) : MetD P w K mg base 4 C_Levels "crossing" "Levels.crossing" s_Levels_crossing ["self", "level"] (sp_Levels_crossing C_Levels) := by
  refine metD d_Levels_crossing sc_Levels_crossing (fun ds μ Q E h => by unfold sp_Levels_crossing at h; split at h <;> first | rfl | exact h.elim) ?_
  intro f cdv A outer s H EX ds μ Q E hg hr tk hp h
  obtain ⟨hu, hu1, hu2⟩ := rooms hr
  refine ⟨_, (jss_cons (js_expr (jf (ks := []) (n := 1) (idx := []) c_want_count hr (by decide) hg tkN (fun _ _ _ _ _ _ us ws h1 h2 => match us, ws, h1, h2 with | [_], [], _, _ => rfl) (jc_p (ja_cons (je_name 1) ja_nil))))
      (jss_one (js_ret (je_cb (cd_sum rfl) T.n_sum (ja_cons (je_lock (je_lc (own := [("end", 2), ("rise", 3)]) (g := gTup _ 2 (gCons (gName 2) (gCons (gName 3) gNil))) sc_Levels_crossing.nd (ji_items (je_fld T.cl_Levels T.na_Levels_rises (je_name 0))) (blkOk_by (own := [("end", 2), ("rise", 3)]) (sc := defScope s_Levels_crossing) (N := ["self", "level", "end", "rise"]) (by decide +kernel)) (ct_tup 2 (cts_cons (ct_name 2) (cts_cons (ct_name 3) cts_nil))) (fun _ _ _ _ _ => (pg_tup (n := 2) rfl (pgs_cons (pg_name (i := 2) sc_Levels_crossing.nd rfl (by first | exact Or.inl rfl | exact Or.inr rfl)) (pgs_cons (pg_name (i := 3) sc_Levels_crossing.nd rfl (by first | exact Or.inl rfl | exact Or.inr rfl)) pgs_nil)) rfl rfl)) (fun _ _ _ _ _ => (jts_one (jt_cmp od_le (je_name 2) (je_name 1)))) (fun _ _ _ _ _ => (je_name 3)))) ja_nil))))), ?_⟩
  clear hr hg tk hp hu hu1 hu2
  unfold sp_Levels_crossing at h
  split at h
  case h_2 => exact h.elim
  rename_i t lev
  obtain ⟨a, b, oft, rs, ⟨h1, h2, h3⟩, hl, h0, q⟩ := h
  walk_at "dl go"
  walk_at "dl rd"
  refine ⟨h0, ?_⟩
  walk_at "dl rd"
  refine ⟨b, enc kI rs, h3, fun o ks => ?_⟩
  walk_at "dl rd"
  refine ⟨b, o, ks, enc kI rs, rfl, by walk_at "dl mu", ?_⟩
  have e : (enc kI rs).map (fun q => D.tup [Dk q.1, q.2]) = rs.map spD := by
    unfold enc
    rw [List.map_map]
    rfl
  rw [e]
  refine lc_pure (xs := rs) (f := spD) (h := fun s : Sp2 => .int s.2) (p := fun s : Sp2 => decide (s.1 ≤ lev)) ?_ ?_ ?_ ?_
  · omega
  · exact fun L acc hL => by (repeat (have ⟨_, hL⟩ := no_put hL)); walk_at "dl mu"
  · intro s hs L acc K1 K2 hL k1 k2
    (repeat (have ⟨_, hL⟩ := no_put hL))
    unfold spD
    walk_at "dl rd"
    exact rd_brD (fun hh => by walk_at "dl rd"; exact k1 (by simp [hh])) fun hh => k2 (by simp [hh])
  · refine ⟨by walk_at "dl mu", ?_⟩
    rw [put_put, put_self h3]
    refine ⟨_, (rs.filter fun s : Sp2 => decide (s.1 ≤ lev)).map (fun s : Sp2 => s.2), rfl, ?_, ?_⟩
    · show _ = _
      rw [List.map_map]
      rfl
    · exact wkR.same q
def sp_Levels___len__ (C_Levels : Addr) : SpD := fun ds μ Q _ => match ds with
  | [.at t] => ∃ a b oft rs S, Lv C_Levels μ t a b oft rs ∧ Cnt oft S ∧ S.length ≤ 1000 ∧ Q (.int S.length) μ
  | _ => False
theorem sc_Levels___len__ : FnScope ["self"] ["self"] (defScope s_Levels___len__) := ⟨rfl, rfl, rfl, by decide +kernel, rfl, by decide +kernel, by decide +kernel⟩
theorem g_Levels___len__ (T : Txt K mg C_Levels) (d_Levels___len__ : Met0 K C_Levels "__len__" "Levels.__len__" s_Levels___len__) (c_Levels_spans : MetD P w K mg base 1 C_Levels "spans" "Levels.spans" s_Levels_spans ["self"] (sp_Levels_spans C_Levels)) : MetD P w K mg base 2 C_Levels "__len__" "Levels.__len__" s_Levels___len__ ["self"] (sp_Levels___len__ C_Levels) := by
  refine metD d_Levels___len__ sc_Levels___len__ (fun ds μ Q E h => by unfold sp_Levels___len__ at h; split at h <;> first | rfl | exact h.elim) ?_
  intro f cdv A outer s H EX ds μ Q E hg hr tk hp h
  obtain ⟨hu, hu1, hu2⟩ := rooms hr
  refine ⟨_, (jss_one (js_ret (je_cb cd_len T.n_len (ja_cons (jm (ks := []) (n := 1) (idx := []) (je_name 0) T.cl_Levels c_Levels_spans hr (by decide) hg tkN (fun _ _ _ _ _ _ us ws h1 h2 => match us, ws, h1, h2 with | [_], [], _, _ => rfl) jc_0) ja_nil)))), ?_⟩
  clear hr hg tk hp hu hu1 hu2
  unfold sp_Levels___len__ at h
  split at h
  case h_2 => exact h.elim
  rename_i t
  obtain ⟨a, b, oft, rs, S, L, hc, hl, q⟩ := h
  have ho := L.ob
  walk_at "dl go"
  walk_at "dl rd"
  refine ⟨a, b, oft, rs, S, L, hc, hl, fun l hl0 => ?_⟩
  walk_at "dl rd"
  rw [List.length_map, sortP_len]
  exact wkR.less (less1 hl0) q
def sp_told (C_Levels : Addr) : SpD := fun ds μ Q _ => match ds with
  | [.at p, .at t, .at r] => ∃ (S : List Sp2) (a b : Addr) (oft : Tb Sp2) (rs : Tb Int), μ p = some .pot ∧ Lv C_Levels μ t a b oft rs ∧ μ r = some (.lst (S.map spD)) ∧ S.length ≤ 500 ∧ (∀ s ∈ S, 0 ≤ s.1 ∧ 0 ≤ s.2 ∧ s.1 ≤ 10 ^ 31 ∧ s.2 ≤ 10 ^ 31) ∧ Cnt oft S ∧ Rise rs S ∧ Q (.bl true) μ
  | _ => False
theorem sc_told : FnScope ["_law_pot_here", "_law_table", "_law_some", "_law_mark", "_law_due", "_law_told_here"] ["_law_pot_here", "_law_table", "_law_some"] (defScope s_told) := ⟨rfl, rfl, rfl, by decide +kernel, rfl, by decide +kernel, by decide +kernel⟩
theorem g_told (T : Txt K mg C_Levels) (d_told : Def0 K mg "_law_told" s_told) (c_levels : CalD P w K mg base 2 "_law_levels" s_levels ["_law_pot_here", "_law_some"] sp_levels) (c_crossed : CalD P w K mg base 1 "_law_crossed" s_crossed ["_law_some", "_law_mark"] sp_crossed) (c_Levels_crossing : MetD P w K mg base 4 C_Levels "crossing" "Levels.crossing" s_Levels_crossing ["self", "level"] (sp_Levels_crossing C_Levels)) (c_Levels_spans : MetD P w K mg base 1 C_Levels "spans" "Levels.spans" s_Levels_spans ["self"] (sp_Levels_spans C_Levels)) (c_Levels___len__ : MetD P w K mg base 2 C_Levels "__len__" "Levels.__len__" s_Levels___len__ ["self"] (sp_Levels___len__ C_Levels)) : CalD P w K mg base 5 "_law_told" s_told ["_law_pot_here", "_law_table", "_law_some"] (sp_told C_Levels) := by
  refine calD d_told sc_told (fun ds μ Q E h => by unfold sp_told at h; split at h <;> first | rfl | exact h.elim) ?_
  intro f cdv A outer s H EX ds μ Q E hg hr tk hp h
  obtain ⟨hu, hu1, hu2⟩ := rooms hr
  refine ⟨_, (jss_cons (js_for hp (ji_list (jf (ks := []) (n := 2) (idx := []) c_levels hr (by decide) hg tkN (fun _ _ _ _ _ _ us ws h1 h2 => match us, ws, h1, h2 with | [_, _], [], _, _ => rfl) (jc_p (ja_cons (je_name 0) (ja_cons (je_name 2) ja_nil))))) (jg_name 3 sc_told.nd) (jss_cons (js_set 4 (je_cb (cd_repr hg hu) T.n_repr (ja_cons (jf (ks := []) (n := 2) (idx := []) c_crossed hr (by decide) hg tkN (fun _ _ _ _ _ _ us ws h1 h2 => match us, ws, h1, h2 with | [_, _], [], _, _ => rfl) (jc_p (ja_cons (je_name 2) (ja_cons (je_name 3) ja_nil)))) ja_nil)) sc_told.nd)
      (jss_one (js_if (jt_w (jw_or (jt_cmp (od_ne hu) (je_cb (cd_repr hg hu) T.n_repr (ja_cons (jm (ks := []) (n := 2) (idx := []) (je_name 1) T.cl_Levels c_Levels_crossing hr (by decide) hg tkN (fun _ _ _ _ _ _ us ws h1 h2 => match us, ws, h1, h2 with | [_, _], [], _, _ => rfl) (jc_p (ja_cons (je_name 3) ja_nil))) ja_nil)) (je_name 4)) (jw_or1 (jt_cmp (od_ne hu) (je_cb (cd_repr hg hu) T.n_repr (ja_cons (jm (ks := ["level"]) (n := 1) (idx := [0]) (je_name 1) T.cl_Levels c_Levels_crossing hr (by decide) hg tkN (fun _ _ _ _ _ _ us ws h1 h2 => match us, ws, h1, h2 with | [_], [_], _, _ => rfl) (jc_k (jk_cons (je_name 3) jk_nil))) ja_nil)) (je_name 4))))) (jss_one (js_ret je_bl)) jss_nil))))
      (jss_cons (js_set 5 (jm (ks := []) (n := 1) (idx := []) (je_name 1) T.cl_Levels c_Levels_spans hr (by decide) hg tkN (fun _ _ _ _ _ _ us ws h1 h2 => match us, ws, h1, h2 with | [_], [], _, _ => rfl) jc_0) sc_told.nd)
      (jss_cons (js_if (jt_w (jw_or (jt_cmp (od_ne hu) (je_cb (cd_repr hg hu) T.n_repr (ja_cons (je_name 5) ja_nil)) (je_cb (cd_repr hg hu) T.n_repr (ja_cons (je_cb (cd_sorted false hu) T.n_sorted (ja_cons (je_name 2) ja_nil)) ja_nil))) (jw_or1 (jt_cmp (od_ne hu) (je_cb (cd_repr hg hu) T.n_repr (ja_cons (jlen c_Levels___len__ hr (by decide) hg (fun _ _ _ _ _ _ us ws h1 h2 => match us, ws, h1, h2 with | [_], [], _, _ => rfl) T.n_len (ja_cons (je_name 1) ja_nil)) ja_nil)) (je_cb (cd_repr hg hu) T.n_repr (ja_cons (je_cb cd_len T.n_len (ja_cons (je_name 2) ja_nil)) ja_nil)))))) (jss_one (js_ret je_bl)) jss_nil)
      (jss_cons (js_expr (je_ml PySem.F.slot_list_append PySem.F.type_list_append md_append (je_name 5) (ja_cons (je_tup (ja_cons je_int (ja_cons je_int ja_nil))) ja_nil)))
      (jss_cons (js_expr (je_ml0 PySem.F.slot_list_reverse PySem.F.type_list_reverse md_reverse (je_name 5)))
      (jss_one (js_ret (je_cmp (od_eq hu) (jm (ks := []) (n := 1) (idx := []) (je_name 1) T.cl_Levels c_Levels_spans hr (by decide) hg tkN (fun _ _ _ _ _ _ us ws h1 h2 => match us, ws, h1, h2 with | [_], [], _, _ => rfl) jc_0) (je_cb (cd_sorted false hu) T.n_sorted (ja_cons (je_name 2) ja_nil)))))))))), ?_⟩
  clear hr hg tk hp hu hu1 hu2
  unfold sp_told at h
  split at h
  case h_2 => exact h.elim
  rename_i p t r
  obtain ⟨S, a, b, oft, rs, hp1, L, hr, hl, hS, hc, hR, q⟩ := h
  have ho := L.ob
  have ho2 := L.of
  have ho3 := L.ri
  have hsz := hR.size
  have hb : ∀ s ∈ S, s.1.natAbs < 10 ^ 40 ∧ s.2.natAbs < 10 ^ 40 := fun s hs => by
    have := hS s hs
    omega
  have hb2 : ∀ s ∈ sortP S, s.1.natAbs < 10 ^ 40 ∧ s.2.natAbs < 10 ^ 40 := fun s hs => hb s ((sortP_perm S).mem_iff.mp hs)
  have hsl := sortP_len S
  walk_at "dl go"
  walk_at "dl rd"
  refine ⟨S, hp1, hr, by omega, fun s hs => ⟨(hS s hs).1, (hS s hs).2.1⟩, fun ls l0 ll => ?_⟩
  walk_at "dl rd"
  refine ⟨fun i ρ μ' => μ' = μ ∧ ∃ x y, ρ = [some (.at p), some (.at t), some (.at r), x, y, none], wk.same ⟨rfl, _, _, rfl⟩, fun _ _ _ _ _ => rfl, ?_, ?_⟩
  · rintro i d ρ μ' hd ⟨hμ, x, y, rfl⟩
    subst μ'
    obtain ⟨m, hm, _, rfl⟩ := map_get hd
    have hcn : (S.filter (crossP m)).length ≤ 1000 := len_filter_le (by omega)
    have hsm := hR.sum m
    walk_at "dl rd"
    refine ⟨S, hr, by omega, ?_⟩
    walk_at "dl rd"
    refine ⟨a, b, oft, rs, L, by omega, l0 m hm, ?_⟩
    rw [hsm]
    walk_at "dl rd"
    refine rd_brF (by simp) ?_
    walk_at "dl rd"
    refine ⟨a, b, oft, rs, L, by omega, l0 m hm, ?_⟩
    rw [hsm]
    walk_at "dl rd"
    refine rd_brF (by simp) ?_
    exact wk.same ⟨rfl, _, _, rfl⟩
  · rintro ρ μ' ⟨hμ, x, y, rfl⟩
    subst μ'
    walk_at "dl rd"
    refine ⟨a, b, oft, rs, S, L, hc, by omega, fun l hl0 => ?_⟩
    walk_at "dl rd"
    refine rd_reprPa (by walk_at "dl mu") hb2 (by omega) ?_
    walk_at "dl rd"
    refine rd_sortedL (by walk_at "dl mu") (by omega) ?_
    walk_at "dl rd"
    refine rd_reprPl hb2 (by omega) ?_
    walk_at "dl rd"
    refine rd_brF (by simp) ?_
    walk_at "dl rd"
    refine ⟨t, _, rfl, by walk_at "dl mu", ?_⟩
    refine ⟨a, b, oft, rs, S, ⟨by walk_at "dl mu", by walk_at "dl mu", by walk_at "dl mu"⟩, hc, by omega, S.length, rfl, by omega, by omega, ?_⟩
    walk_at "dl rd"
    rw [List.length_map]
    walk_at "dl rd"
    refine rd_brF (by simp) ?_
    walk_at "dl rd"
    refine ⟨a, b, oft, rs, S, ⟨by walk_at "dl mu", by walk_at "dl mu", by walk_at "dl mu"⟩, hc, by omega, fun l2 hl2 => ?_⟩
    (repeat (have ⟨_, hl2⟩ := no_put hl2))
    walk_at "dl rd"
    refine rd_sortedL (S := S) (by walk_at "dl mu") (by omega) ?_
    walk_at "dl rd"
    refine rd_eqPa put_same ?_
    rw [eqv_self]
    exact wkR.less ((((less1 hl0).put hl0).put hl0).put hl2) q
def sp_law : SpD := fun ds μ Q _ => match ds with
  | [.at a] => ∃ ns : List Int, μ a = some (.ro (ns.map .int)) ∧ ns.length ≤ 63 ∧ Q (.bl true) μ
  | _ => False
theorem law_end (a : Addr) (ns : List Int) (h : ns.length ≤ 63) : sp_law [.at a] (scriptMu a ns) (fun d _ => d = .bl true) noX := ⟨ns, put_same, h, rfl⟩
theorem sc_law : FnScope ["_law_script", "_law_k", "_law_pot_here", "_law_far_here", "_law_tables", "_law_rows", "_law_turn", "_law_at_here", "_law_is_again", "_law_span_here", "_law_held", "_law_shown", "_law_table", "_law_some"] ["_law_script"] (defScope s_law) := ⟨rfl, rfl, rfl, by decide +kernel, rfl, by decide +kernel, by decide +kernel⟩
theorem g_law (T : Txt K mg C_Levels) (d_law : Def0 K mg "law" s_law) (c_pot : CalD P w K mg base 2 "_law_pot" s_pot ["_law_script", "_law_k"] sp_pot) (c_far : CalD P w K mg base 2 "_law_far" s_far ["_law_pot_here"] sp_far) (c_Levels___init__ : MakD P w K mg base 1 "Levels" C_Levels "Levels.__init__" s_Levels___init__ ["self"] (sp_Levels___init__ C_Levels)) (c_draw : CalD P w K mg base 1 "_law_draw" s_draw ["_law_pot_here", "_law_many"] sp_draw) (c_span : CalD P w K mg base 3 "_law_span" s_span ["_law_pot_here", "_law_far_here"] sp_span) (c_Levels_spans : MetD P w K mg base 1 C_Levels "spans" "Levels.spans" s_Levels_spans ["self"] (sp_Levels_spans C_Levels)) (c_put : CalD P w K mg base 5 "_law_put" s_put ["_law_table", "_law_span_here", "_law_named"] (sp_put C_Levels)) (c_told : CalD P w K mg base 5 "_law_told" s_told ["_law_pot_here", "_law_table", "_law_some"] (sp_told C_Levels)) : CalD P w K mg base 6 "law" s_law ["_law_script"] sp_law := by
  refine calD d_law sc_law (fun ds μ Q E h => by unfold sp_law at h; split at h <;> first | rfl | exact h.elim) ?_
  intro f cdv A outer s H EX ds μ Q E hg hr tk hp h
  obtain ⟨hu, hu1, hu2⟩ := rooms hr
  refine ⟨_, (jss_cons (js_for hp (ji_range1 T.n_range (ja_cons (je_cb (cd_max2 rfl) T.n_max (ja_cons je_int (ja_cons (je_cb (cd_min2 rfl) T.n_min (ja_cons je_int (ja_cons (je_cb cd_len T.n_len (ja_cons (je_name 0) ja_nil)) ja_nil))) ja_nil))) ja_nil)) (jg_name 1 sc_law.nd) (jss_cons (js_set 2 (jf (ks := []) (n := 2) (idx := []) c_pot hr (by decide) hg tkN (fun _ _ _ _ _ _ us ws h1 h2 => match us, ws, h1, h2 with | [_, _], [], _, _ => rfl) (jc_p (ja_cons (je_name 0) (ja_cons (je_name 1) ja_nil)))) sc_law.nd)
      (jss_cons (js_set 3 (jf (ks := []) (n := 1) (idx := []) c_far hr (by decide) hg tkN (fun _ _ _ _ _ _ us ws h1 h2 => match us, ws, h1, h2 with | [_], [], _, _ => rfl) (jc_p (ja_cons (je_name 2) ja_nil))) sc_law.nd)
      (jss_cons (js_par 4 5 (ja_cons (je_lst false (ja_cons (jk (ks := []) (n := 1) (idx := []) c_Levels___init__ hr (by decide) hg tkN (fun _ _ _ _ _ _ us ws h1 h2 => match us, ws, h1, h2 with | [_], [], _, _ => rfl) jc_0) (ja_cons (jk (ks := []) (n := 1) (idx := []) c_Levels___init__ hr (by decide) hg tkN (fun _ _ _ _ _ _ us ws h1 h2 => match us, ws, h1, h2 with | [_], [], _, _ => rfl) jc_0) ja_nil))) (ja_cons (je_lst false (ja_cons (je_lst true ja_nil) (ja_cons (je_lst true ja_nil) ja_nil))) ja_nil)) sc_law.nd)
      (jss_cons (js_for hp (ji_range1 T.n_range (ja_cons (je_ix id_ix (je_lst false (ja_cons (jf (ks := []) (n := 2) (idx := []) c_draw hr (by decide) hg tkN (fun _ _ _ _ _ _ us ws h1 h2 => match us, ws, h1, h2 with | [_, _], [], _, _ => rfl) (jc_p (ja_cons (je_name 2) (ja_cons je_int ja_nil)))) (ja_cons (jf (ks := []) (n := 2) (idx := []) c_draw hr (by decide) hg tkN (fun _ _ _ _ _ _ us ws h1 h2 => match us, ws, h1, h2 with | [_, _], [], _, _ => rfl) (jc_p (ja_cons (je_name 2) (ja_cons je_int ja_nil)))) (ja_cons je_int ja_nil)))) (jf (ks := []) (n := 2) (idx := []) c_draw hr (by decide) hg tkN (fun _ _ _ _ _ _ us ws h1 h2 => match us, ws, h1, h2 with | [_, _], [], _, _ => rfl) (jc_p (ja_cons (je_name 2) (ja_cons je_int ja_nil))))) ja_nil)) (jg_name 6 sc_law.nd) (jss_cons (js_par 7 8 (ja_cons (jf (ks := []) (n := 2) (idx := []) c_draw hr (by decide) hg tkN (fun _ _ _ _ _ _ us ws h1 h2 => match us, ws, h1, h2 with | [_, _], [], _, _ => rfl) (jc_p (ja_cons (je_name 2) (ja_cons je_int ja_nil)))) (ja_cons (je_cmp (od_eq hu) (jf (ks := []) (n := 2) (idx := []) c_draw hr (by decide) hg tkN (fun _ _ _ _ _ _ us ws h1 h2 => match us, ws, h1, h2 with | [_, _], [], _, _ => rfl) (jc_p (ja_cons (je_name 2) (ja_cons je_int ja_nil)))) je_int) ja_nil)) sc_law.nd)
      (jss_cons (js_set 9 (jf (ks := []) (n := 2) (idx := []) c_span hr (by decide) hg tkN (fun _ _ _ _ _ _ us ws h1 h2 => match us, ws, h1, h2 with | [_, _], [], _, _ => rfl) (jc_p (ja_cons (je_name 2) (ja_cons (je_name 3) ja_nil)))) sc_law.nd)
      (jss_cut (js_if (jt_w (jw_and (jt_val (je_name 8)) (jw_and1 (jt_cmp (od_ne hu) (je_ix id_ix (je_name 5) (je_name 7)) (je_lst false ja_nil))))) (jss_one (js_set 9 (je_ix id_ix (je_ix id_ix (je_name 5) (je_name 7)) (jf (ks := []) (n := 2) (idx := []) c_draw hr (by decide) hg tkN (fun _ _ _ _ _ _ us ws h1 h2 => match us, ws, h1, h2 with | [_, _], [], _, _ => rfl) (jc_p (ja_cons (je_name 2) (ja_cons (je_cb cd_len T.n_len (ja_cons (je_ix id_ix (je_name 5) (je_name 7)) ja_nil)) ja_nil))))) sc_law.nd)) jss_nil)
      (jss_cons (js_expr (je_ml PySem.F.slot_list_append PySem.F.type_list_append md_append (je_ix id_ix (je_name 5) (je_name 7)) (ja_cons (je_name 9) ja_nil)))
      (jss_cons (js_set 10 (je_lst false (ja_cons (jm (ks := []) (n := 1) (idx := []) (je_ix id_ix (je_name 4) je_int) T.cl_Levels c_Levels_spans hr (by decide) hg tkN (fun _ _ _ _ _ _ us ws h1 h2 => match us, ws, h1, h2 with | [_], [], _, _ => rfl) jc_0) (ja_cons (jm (ks := []) (n := 1) (idx := []) (je_ix id_ix (je_name 4) je_int) T.cl_Levels c_Levels_spans hr (by decide) hg tkN (fun _ _ _ _ _ _ us ws h1 h2 => match us, ws, h1, h2 with | [_], [], _, _ => rfl) jc_0) ja_nil))) sc_law.nd)
      (jss_cons (js_set 11 (je_cb (cd_repr hg hu) T.n_repr (ja_cons (je_name 10) ja_nil)) sc_law.nd)
      (jss_cons (js_if (jt_cmp od_notN (jf (ks := []) (n := 3) (idx := []) c_put hr (by decide) hg tkN (fun _ _ _ _ _ _ us ws h1 h2 => match us, ws, h1, h2 with | [_, _, _], [], _, _ => rfl) (jc_p (ja_cons (je_ix id_ix (je_name 4) (je_name 7)) (ja_cons (je_name 9) (ja_cons (je_cmp (od_eq hu) (je_op od_mod (je_name 6) je_int) je_int) ja_nil))))) je_non) (jss_one (js_ret je_bl)) jss_nil)
      (jss_cons (js_if (jt_w (jw_or (jt_not (jt_val (jf (ks := []) (n := 3) (idx := []) c_told hr (by decide) hg tkN (fun _ _ _ _ _ _ us ws h1 h2 => match us, ws, h1, h2 with | [_, _, _], [], _, _ => rfl) (jc_p (ja_cons (je_name 2) (ja_cons (je_ix id_ix (je_name 4) (je_name 7)) (ja_cons (je_ix id_ix (je_name 5) (je_name 7)) ja_nil))))))) (jw_or1 (jt_not (jt_val (jf (ks := []) (n := 3) (idx := []) c_told hr (by decide) hg tkN (fun _ _ _ _ _ _ us ws h1 h2 => match us, ws, h1, h2 with | [_, _, _], [], _, _ => rfl) (jc_p (ja_cons (je_name 2) (ja_cons (je_ix id_ix (je_name 4) (je_op od_sub je_int (je_name 7))) (ja_cons (je_ix id_ix (je_name 5) (je_op od_sub je_int (je_name 7))) ja_nil)))))))))) (jss_one (js_ret je_bl)) jss_nil)
      (jss_one (js_if (jt_cmp (od_ne hu) (je_cb (cd_repr hg hu) T.n_repr (ja_cons (je_name 10) ja_nil)) (je_name 11)) (jss_one (js_ret je_bl)) jss_nil)))))))))))
      (jss_one (js_if (jt_not (jt_val (je_cb (cd_all rfl) T.n_all (ja_cons (je_lc (own := [("_law_table", 12), ("_law_some", 13)]) (g := gTup _ 2 (gCons (gName 12) (gCons (gName 13) gNil))) sc_law.nd (ji_zip T.n_zip (ja_cons (je_name 4) (ja_cons (je_name 5) ja_nil))) (blkOk_by (own := [("_law_table", 12), ("_law_some", 13)]) (sc := defScope s_law) (N := ["_law_script", "_law_k", "_law_pot_here", "_law_far_here", "_law_tables", "_law_rows", "_law_turn", "_law_at_here", "_law_is_again", "_law_span_here", "_law_held", "_law_shown", "_law_table", "_law_some"]) (by decide +kernel)) (ct_tup 2 (cts_cons (ct_name 12) (cts_cons (ct_name 13) cts_nil))) (fun _ _ _ _ _ => (pg_tup (n := 2) rfl (pgs_cons (pg_name (i := 12) sc_law.nd rfl (by first | exact Or.inl rfl | exact Or.inr rfl)) (pgs_cons (pg_name (i := 13) sc_law.nd rfl (by first | exact Or.inl rfl | exact Or.inr rfl)) pgs_nil)) rfl rfl)) (fun _ _ _ _ _ => jts_nil) (fun _ _ _ _ _ => (jf (ks := []) (n := 3) (idx := []) c_told hr (by decide) hg tkN (fun _ _ _ _ _ _ us ws h1 h2 => match us, ws, h1, h2 with | [_, _, _], [], _, _ => rfl) (jc_p (ja_cons (je_name 2) (ja_cons (je_name 12) (ja_cons (je_name 13) ja_nil))))))) ja_nil)))) (jss_one (js_ret je_bl)) jss_nil)))))))
      (jss_one (js_ret je_bl))), ?_⟩
  clear hr hg tk hp hu hu1 hu2
  unfold sp_law at h
  split at h
  case h_2 => exact h.elim
  rename_i a0
  obtain ⟨ns, ha, hn, q⟩ := h
  have hcnt : (if (if ((ns.map D.int).length : Int) < 5 then ((ns.map D.int).length : Int) else 5) > 1 then (if ((ns.map D.int).length : Int) < 5 then ((ns.map D.int).length : Int) else 5) else 1).toNat ≤ 5 := by
    split <;> split <;> omega
  have hcnt2 : -(2 ^ 62) ≤ (if (if ((ns.map D.int).length : Int) < 5 then ((ns.map D.int).length : Int) else 5) > 1 then (if ((ns.map D.int).length : Int) < 5 then ((ns.map D.int).length : Int) else 5) else 1) ∧ (if (if ((ns.map D.int).length : Int) < 5 then ((ns.map D.int).length : Int) else 5) > 1 then (if ((ns.map D.int).length : Int) < 5 then ((ns.map D.int).length : Int) else 5) else 1) < 2 ^ 62 := by
    split <;> split <;> omega
  walk_at "dl go"
  walk_at "dl rd"
  generalize (if (if ((ns.map D.int).length : Int) < 5 then ((ns.map D.int).length : Int) else 5) > 1 then (if ((ns.map D.int).length : Int) < 5 then ((ns.map D.int).length : Int) else 5) else 1).toNat = cnt at hcnt ⊢
  refine ⟨fun i ρ μ' => μ' = μ ∧ ∃ x1 x2 x3 x4 x5 x6 x7 x8 x9 x10 x11, ρ = [some (.at a0), x1, x2, x3, x4, x5, x6, x7, x8, x9, x10, x11, none, none], wk.same ⟨rfl, _, _, _, _, _, _, _, _, _, _, _, rfl⟩, fun _ _ _ _ _ => trivial, ?_, fun ρ μ' ⟨hμ, _⟩ => (by subst hμ; exact wkR.same q)⟩
  rintro i d ρ μ' hd ⟨hμ, x1, x2, x3, x4, x5, x6, x7, x8, x9, x10, x11, rfl⟩
  subst μ'
  obtain ⟨k, hk, _, rfl⟩ := map_get hd
  have hk2 : k < cnt := List.mem_range.mp hk
  walk_at "dl rd"
  refine ⟨ns, ha, by omega, by omega, fun p hp => ?_⟩
  walk_at "dl rd"
  refine ⟨put_same, fun far f0 f1 => ?_⟩
  walk_at "dl rd"
  intro t0 ht0
  (repeat (have ⟨_, ht0⟩ := no_put ht0))
  refine ⟨put_same, fun a1 b1 ha1 hb1 hab1 hL1 => ⟨rfl, ?_⟩⟩
  (repeat (have ⟨_, ha1⟩ := no_put ha1))
  (repeat (have ⟨_, hb1⟩ := no_put hb1))
  walk_at "dl rd"
  intro t1 ht1
  (repeat (have ⟨_, ht1⟩ := no_put ht1))
  refine ⟨put_same, fun a2 b2 ha2 hb2 hab2 hL2 => ⟨rfl, ?_⟩⟩
  (repeat (have ⟨_, ha2⟩ := no_put ha2))
  (repeat (have ⟨_, hb2⟩ := no_put hb2))
  walk_at "dl rd"
  refine rd_newT fun q0 hq0 => ?_
  (repeat (have ⟨_, hq0⟩ := no_put hq0))
  walk_at "dl rd"
  refine rd_newT fun q1 hq1 => ?_
  (repeat (have ⟨_, hq1⟩ := no_put hq1))
  walk_at "dl rd"
  refine ⟨_, _, rfl, ?_⟩
  obtain ⟨t, rfl, rfl⟩ : ∃ t : _root_.Fin 2 → Addr, t 0 = t0 ∧ t 1 = t1 := ⟨fun j => if j = 0 then t0 else t1, rfl, rfl⟩
  obtain ⟨a, rfl, rfl⟩ : ∃ a : _root_.Fin 2 → Addr, a 0 = a1 ∧ a 1 = a2 := ⟨fun j => if j = 0 then a1 else a2, rfl, rfl⟩
  obtain ⟨b, rfl, rfl⟩ : ∃ b : _root_.Fin 2 → Addr, b 0 = b1 ∧ b 1 = b2 := ⟨fun j => if j = 0 then b1 else b2, rfl, rfl⟩
  obtain ⟨r, rfl, rfl⟩ : ∃ r : _root_.Fin 2 → Addr, r 0 = q0 ∧ r 1 = q1 := ⟨fun j => if j = 0 then q0 else q1, rfl, rfl⟩
  have hinj : ∀ j k, j ≠ k → t j ≠ t k ∧ a j ≠ a k ∧ b j ≠ b k ∧ r j ≠ r k := by
    intro j k hjk
    rcases fin2 j with rfl | rfl <;> rcases fin2 k with rfl | rfl
    · exact absurd rfl hjk
    · exact ⟨by walk_at "dl ne_tac", by walk_at "dl ne_tac", by walk_at "dl ne_tac", by walk_at "dl ne_tac"⟩
    · exact ⟨by walk_at "dl ne_tac", by walk_at "dl ne_tac", by walk_at "dl ne_tac", by walk_at "dl ne_tac"⟩
    · exact absurd rfl hjk
  walk_at "dl rd"
  refine ⟨by walk_at "dl mu", by decide, by decide, fun u1 u10 u11 => ?_⟩
  walk_at "dl rd"
  refine ⟨by walk_at "dl mu", by decide, by decide, fun u2 u20 u21 => ?_⟩
  walk_at "dl rd"
  refine ⟨by walk_at "dl mu", by decide, by decide, fun u3 u30 u31 => ?_⟩
  obtain ⟨cn, hcm, hcn⟩ := ints_at (ns := [u1, u2, 40]) u30 u31
  refine rd_ixl hcn ?_
  have hcn0 : 0 ≤ cn ∧ cn ≤ 40 := by
    simp only [List.mem_cons, List.not_mem_nil, or_false] at hcm
    omega
  walk_at "dl rd"
  refine ⟨fun i ρ μ' => μ' p = some .pot ∧ ∃ (S : _root_.Fin 2 → List Sp2) (x6 x7 x8 x9 x10 x11 : Option D), Two C_Levels μ μ' t a b r S i ∧ ρ = [some (.at a0), some (.int k), some (.at p), some (.int far), some (.lst [.at (t 0), .at (t 1)]), some (.lst [.at (r 0), .at (r 1)]), x6, x7, x8, x9, x10, x11, none, none], wk.same ⟨by walk_at "dl mu", fun _ => [], _, _, _, _, _, _, ⟨?_, hinj, fun _ => Nat.le_refl _, by walk_at "dl less"⟩, rfl⟩, fun _ _ _ _ _ => trivial, ?_, ?_⟩
  · intro j
    rcases fin2 j with rfl | rfl
    · exact ⟨⟨[], [], ⟨by walk_at "dl mu", by walk_at "dl mu", by walk_at "dl mu"⟩, .nil, .nil⟩, by walk_at "dl mu", fun s hs => (by cases hs), ⟨by assumption, by assumption, by assumption, by assumption⟩⟩
    · exact ⟨⟨[], [], ⟨by walk_at "dl mu", by walk_at "dl mu", by walk_at "dl mu"⟩, .nil, .nil⟩, by walk_at "dl mu", fun s hs => (by cases hs), ⟨by assumption, by assumption, by assumption, by assumption⟩⟩
  · clear hinj
    rintro i d ρ μ' hd ⟨hpot, S, x6, x7, x8, x9, x10, x11, hT, rfl⟩
    have hi := (List.getElem?_eq_some_iff.mp hd).1
    rw [List.length_map, List.length_range] at hi
    obtain ⟨turn, _, _, rfl⟩ := map_get hd
    walk_at "dl rd"
    refine ⟨hpot, by decide, by decide, fun d0 d00 d01 => ?_⟩
    walk_at "dl rd"
    refine ⟨hpot, by decide, by decide, fun d4 d40 d41 => ?_⟩
    walk_at "dl rd"
    refine ⟨_, _, rfl, ?_⟩
    walk_at "dl rd"
    refine ⟨hpot, f0, f1, fun f g f0' f1' g0 g1 => ?_⟩
    obtain ⟨j, j', hjj, at1, at2, hall⟩ := pick2 d00 d01
    have et : atI [D.at (t 0), D.at (t 1)] d0 = some (.at (t j)) := at1 fun j => .at (t j)
    have er : atI [D.at (r 0), D.at (r 1)] d0 = some (.at (r j)) := at1 fun j => .at (r j)
    have et' : atI [D.at (t 0), D.at (t 1)] (1 - d0) = some (.at (t j')) := at2 fun j => .at (t j)
    have er' : atI [D.at (r 0), D.at (r 1)] (1 - d0) = some (.at (r j')) := at2 fun j => .at (r j)
    have row := (hT.tab j).row
    have hSl := hT.len j
    walk_at "dl rd"
    refine ⟨fun ρ' μ2 => μ2 = μ' ∧ ∃ s : Sp2, (0 ≤ s.1 ∧ 0 ≤ s.2 ∧ s.1 ≤ 10 ^ 31 ∧ s.2 ≤ 10 ^ 31) ∧ ρ' = [some (.at a0), some (.int k), some (.at p), some (.int far), some (.lst [.at (t 0), .at (t 1)]), some (.lst [.at (r 0), .at (r 1)]), some (.int turn), some (.int d0), some (.bl (decide (d4 = 0))), some (spD s), x10, x11, none, none], ?_, ?_⟩
    · walk_at "dl rd"
      refine rd_brD (fun hz => ?_) fun hz => rd_brF rfl ⟨rfl, (f, g), ⟨f0', g0, f1', g1⟩, rfl⟩
      walk_at "dl rd"
      refine rd_neP row ?_
      cases hS : S j with
      | nil =>
        refine rd_bl ?_
        exact rd_brF rfl ⟨rfl, (f, g), ⟨f0', g0, f1', g1⟩, rfl⟩
      | cons s0 Sr =>
        refine rd_bl ?_
        refine rd_brT rfl ?_
        have hSn : 0 < (S j).length := by rw [hS]; simp
        walk_at "dl rd"
        rw [List.length_map]
        refine ⟨hpot, by omega, by omega, fun d5 d50 d51 => ?_⟩
        obtain ⟨s, hs, es⟩ := atI_map spD (xs := S j) d50 d51
        refine rd_ixa row es ?_
        exact ⟨rfl, s, (hT.tab j).ok s hs, rfl⟩
    · rintro ρ' μ2 ⟨hμ2, s, hs, rfl⟩
      subst hμ2
      have hI := hT.inj j' j hjj
      have hIt := hI.1
      have hIa := hI.2.1
      have hIb := hI.2.2.1
      have hIr := hI.2.2.2
      obtain ⟨oft0, rs0, ⟨o10, o20, o30⟩, c0, R0⟩ := (hT.tab 0).ex
      obtain ⟨oft1, rs1, ⟨o11, o21, o31⟩, c1, R1⟩ := (hT.tab 1).ex
      obtain ⟨oft, rs, ⟨o1, o2, o3⟩, cc, RR⟩ := (hT.tab j).ex
      obtain ⟨oft', rs', ⟨o1', o2', o3'⟩, cc', RR'⟩ := (hT.tab j').ex
      have row' := (hT.tab j').row
      have hl0 := hT.len 0
      have hl1 := hT.len 1
      have hl' := hT.len j'
      have hz := cc.size
      have hz2 := RR.size
      have e : (S j).map spD ++ [spD s] = (S j ++ [s]).map spD := by simp
      walk_at "dl rd"
      rw [e]
      walk_at "dl rd"
      refine ⟨a 0, b 0, oft0, rs0, S 0, ⟨by walk_at "dl mu", by walk_at "dl mu", by walk_at "dl mu"⟩, c0, by omega, fun l0 hl00 => ?_⟩
      (repeat (have ⟨_, hl00⟩ := no_put hl00))
      walk_at "dl rd"
      refine ⟨a 1, b 1, oft1, rs1, S 1, ⟨by walk_at "dl mu", by walk_at "dl mu", by walk_at "dl mu"⟩, c1, by omega, fun l1 hl10 => ?_⟩
      (repeat (have ⟨_, hl10⟩ := no_put hl10))
      walk_at "dl rd"
      have bnd : ∀ k, ∀ z ∈ sortP (S k), z.1.natAbs < 10 ^ 40 ∧ z.2.natAbs < 10 ^ 40 := fun k z hz => by
        have := (hT.tab k).ok z ((sortP_perm _).mem_iff.mp hz)
        omega
      have shw : Shw (.list [.list ((sortP (S 0)).map pP), .list ((sortP (S 1)).map pP)]) ((12000 + 1) * 2) 4 := Shw.list (n := 12000) (k := 3) (xs := [.list ((sortP (S 0)).map pP), .list ((sortP (S 1)).map pP)]) (by
        intro x hx
        simp only [List.mem_cons, List.not_mem_nil, or_false] at hx
        rcases hx with rfl | rfl
        · exact (Shw.pPs (bnd 0)).mono (by rw [sortP_len]; omega) (Nat.le_refl _)
        · exact (Shw.pPs (bnd 1)).mono (by rw [sortP_len]; omega) (Nat.le_refl _))
      refine rd_repr (p := .list [.list ((sortP (S 0)).map pP), .list ((sortP (S 1)).map pP)]) (.lst (.cons (.at (by walk_at "dl mu") (rss_sp _)) (.cons (.at (by walk_at "dl mu") (rss_sp _)) .nil))) shw (by decide) (by decide) ?_
      walk_at "dl rd"
      refine ⟨a j, b j, oft, rs, ⟨by walk_at "dl mu", by walk_at "dl mu", by walk_at "dl mu"⟩, by omega, by omega, hs.1, hs.2.1, ?_⟩
      walk_at "dl rd"
      refine rd_brF rfl ?_
      walk_at "dl rd"
      have bj : ∀ z ∈ S j ++ [s], 0 ≤ z.1 ∧ 0 ≤ z.2 ∧ z.1 ≤ 10 ^ 31 ∧ z.2 ≤ 10 ^ 31 := fun z hz => by
        rcases List.mem_append.mp hz with hz | hz
        · exact (hT.tab j).ok z hz
        · simp at hz
          rw [hz]
          exact hs
      have lj : (S j ++ [s]).length = (S j).length + 1 := by simp
      refine ⟨S j ++ [s], a j, b j, bump oft s 1, riseOf rs s, by walk_at "dl mu", ⟨by walk_at "dl mu", by walk_at "dl mu", by walk_at "dl mu"⟩, by walk_at "dl mu", by omega, bj, cc.add s, RR.add s, ?_⟩
      walk_at "dl rd"
      refine rd_brF rfl ?_
      walk_at "dl rd"
      refine ⟨S j', a j', b j', oft', rs', by walk_at "dl mu", ⟨by walk_at "dl mu", by walk_at "dl mu", by walk_at "dl mu"⟩, by walk_at "dl mu", by omega, (hT.tab j').ok, cc', RR', ?_⟩
      walk_at "dl rd"
      refine rd_brF rfl ?_
      walk_at "dl rd"
      refine rd_repr (p := .list [.list ((sortP (S 0)).map pP), .list ((sortP (S 1)).map pP)]) (.lst (.cons (.at (by walk_at "dl mu") (rss_sp _)) (.cons (.at (by walk_at "dl mu") (rss_sp _)) .nil))) shw (by decide) (by decide) ?_
      walk_at "dl rd"
      refine rd_brF (by simp) ?_
      have fj := (hT.tab j).f
      have fr := fj.2.2.2
      have fa := fj.2.1
      have fb := fj.2.2.1
      have hless := hT.less
      have n0 := less_no hless hl00
      have n1 := less_no hless hl10
      refine wk.same ⟨by walk_at "dl mu", fun k => if k = j then S j ++ [s] else S k, _, _, _, _, _, _, ⟨fun k => ?_, hT.inj, fun k => ?_, by walk_at "dl less"⟩, rfl⟩
      · rcases hall k with rfl | rfl
        · show Tab _ _ _ _ _ _ _ (if k = k then S k ++ [s] else S k)
          rw [if_pos rfl]
          exact ⟨⟨bump oft s 1, riseOf rs s, ⟨by walk_at "dl mu", by walk_at "dl mu", by walk_at "dl mu"⟩, cc.add s, RR.add s⟩, by walk_at "dl mu", bj, fj⟩
        · show Tab _ _ _ _ _ _ _ (if k = j then S j ++ [s] else S k)
          rw [if_neg hjj]
          exact ⟨⟨oft', rs', ⟨by walk_at "dl mu", by walk_at "dl mu", by walk_at "dl mu"⟩, cc', RR'⟩, by walk_at "dl mu", (hT.tab k).ok, (hT.tab k).f⟩
      · show (if k = j then S j ++ [s] else S k).length ≤ _
        split
        · omega
        · have := hT.len k
          omega
  · rintro ρ' μ2 ⟨hpot, S, x6, x7, x8, x9, x10, x11, hT, rfl⟩
    walk_at "dl rd"
    refine ⟨_, _, _, _, rfl, rfl, rfl, rfl, ?_⟩
    refine lc_pure (xs := [(0 : _root_.Fin 2), 1]) (f := fun j => .tup [.at (t j), .at (r j)]) (h := fun _ => .bl true) (p := fun _ => true) ?_ ?_ ?_ ?_
    · decide
    · exact fun L acc hL => ⟨rfl, rfl⟩
    · intro j _ L acc K1 K2 hL k1 k2
      obtain ⟨oft, rs, ⟨o1, o2, o3⟩, cc, RR⟩ := (hT.tab j).ex
      have row := (hT.tab j).row
      have hl' := hT.len j
      have hlen : ((List.range (cn).toNat).map fun i : Nat => D.int i).length ≤ 40 := by
        rw [List.length_map, List.length_range]
        omega
      walk_at "dl rd"
      refine rd_brT rfl ?_
      walk_at "dl rd"
      refine ⟨S j, a j, b j, oft, rs, by walk_at "dl mu", ⟨by walk_at "dl mu", by walk_at "dl mu", by walk_at "dl mu"⟩, by walk_at "dl mu", by omega, (hT.tab j).ok, cc, RR, k1 rfl⟩
    · walk_at "dl rd"
      refine ⟨_, [true, true], rfl, rfl, ?_⟩
      walk_at "dl rd"
      refine rd_brF rfl ?_
      exact ⟨_, μ, .refl _, hT.less, rfl, _, _, _, _, _, _, _, _, _, _, _, rfl⟩
end Dl.M
namespace Dl.M
open PySem PySem.Spec PyProof.Rows L2 Dl
theorem all_mk {l : PySem.W.OpenLaw} {w : World} {K : Frg} {h : Heap} {mg : Str → Option Value} {fa C_Levels f0 f1 f2 f3 f4 f5 f6 f7 f8 f9 f10 f11 f12 f13 f14 f15 f16 f17 f18 f19 f20 : Addr} (X : K.In h) (G : h.Ns mainGlobals mg) (hfa : mg "law" = some (.ref fa))
    {od0 an0 od1 an1 od2 an2 od3 an3 od4 an4 od5 an5 od6 an6 od7 an7 od8 an8 od9 an9 od10 an10 od11 an11 od12 an12 od13 an13 od14 an14 od15 an15 od16 an16 od17 an17 od18 an18 od19 an19 od20 an20 : Option Addr} {sl0 sl1 sl2 sl3 sl4 sl5 sl6 sl7 sl8 sl9 sl10 sl11 sl12 sl13 sl14 sl15 sl16 sl17 sl18 sl19 sl20 : Array (Option Value)} {oc0 kV0 dc0 pm0 cd0 ct0 oc1 kV1 dc1 pm1 cd1 ct1 oc2 kV2 dc2 pm2 cd2 ct2 oc3 kV3 dc3 pm3 cd3 ct3 oc4 kV4 dc4 pm4 cd4 ct4 oc5 kV5 dc5 pm5 cd5 ct5 oc6 kV6 dc6 pm6 cd6 ct6 oc7 kV7 dc7 pm7 cd7 ct7 oc8 kV8 dc8 pm8 cd8 ct8 oc9 kV9 dc9 pm9 cd9 ct9 oc10 kV10 dc10 pm10 cd10 ct10 oc11 kV11 dc11 pm11 cd11 ct11 oc12 kV12 dc12 pm12 cd12 ct12 oc13 kV13 dc13 pm13 cd13 ct13 oc14 kV14 dc14 pm14 cd14 ct14 oc15 kV15 dc15 pm15 cd15 ct15 oc16 kV16 dc16 pm16 cd16 ct16 oc17 kV17 dc17 pm17 cd17 ct17 oc18 kV18 dc18 pm18 cd18 ct18 oc19 kV19 dc19 pm19 cd19 ct19 oc20 kV20 dc20 pm20 cd20 ct20 : Value}
    (aC_Levels : PySem.W.nsIn K mainGlobals "Levels" = some (some (.ref C_Levels)))
    (pg_Levels : PySem.W.plainGet K C_Levels Str.empty = true)
    (hd_Levels : PySem.W.hasDictIn K C_Levels = true)
    (po_Levels : PySem.W.plainOver K C_Levels = true)
    (sa_Levels : PySem.W.findIn K (.ref C_Levels) "__setattr__" = some (some (.builtin "object.__setattr__")))
    (mk_Levels : PySem.W.makesIn K C_Levels = true)
    (kc_Levels : PySem.W.keepIn K (.ref C_Levels) = true)
    (a0 : PySem.W.nsIn K mainGlobals "_law_at" = some (some (.ref f0)))
    (l0 : K.lookup f0 = some ⟨oc0, od0, .func (PySem.W.fnOf "_law_at" "_law_at" (defArgs s_at) (defBody s_at) (defScope s_at) .none kV0 dc0 pm0 an0 cd0 ct0), sl0⟩)
    (c0 : PySem.W.codeIn K cd0 "_law_at" = true)
    (k0 : PySem.W.keepIn K (.ref f0) = true)
    (a1 : PySem.W.nsIn K mainGlobals "_law_pot" = some (some (.ref f1)))
    (l1 : K.lookup f1 = some ⟨oc1, od1, .func (PySem.W.fnOf "_law_pot" "_law_pot" (defArgs s_pot) (defBody s_pot) (defScope s_pot) .none kV1 dc1 pm1 an1 cd1 ct1), sl1⟩)
    (c1 : PySem.W.codeIn K cd1 "_law_pot" = true)
    (k1 : PySem.W.keepIn K (.ref f1) = true)
    (a2 : PySem.W.nsIn K mainGlobals "_law_draw" = some (some (.ref f2)))
    (l2 : K.lookup f2 = some ⟨oc2, od2, .func (PySem.W.fnOf "_law_draw" "_law_draw" (defArgs s_draw) (defBody s_draw) (defScope s_draw) .none kV2 dc2 pm2 an2 cd2 ct2), sl2⟩)
    (c2 : PySem.W.codeIn K cd2 "_law_draw" = true)
    (k2 : PySem.W.keepIn K (.ref f2) = true)
    (a3 : PySem.W.nsIn K mainGlobals "_law_far" = some (some (.ref f3)))
    (l3 : K.lookup f3 = some ⟨oc3, od3, .func (PySem.W.fnOf "_law_far" "_law_far" (defArgs s_far) (defBody s_far) (defScope s_far) .none kV3 dc3 pm3 an3 cd3 ct3), sl3⟩)
    (c3 : PySem.W.codeIn K cd3 "_law_far" = true)
    (k3 : PySem.W.keepIn K (.ref f3) = true)
    (a4 : PySem.W.findIn K (.ref C_Levels) "__init__" = some (some (.ref f4)))
    (i4 : PySem.W.isFn K (.ref f4) = true)
    (l4 : K.lookup f4 = some ⟨oc4, od4, .func (PySem.W.fnOf "__init__" "Levels.__init__" (defArgs s_Levels___init__) (defBody s_Levels___init__) (defScope s_Levels___init__) .none kV4 dc4 pm4 an4 cd4 ct4), sl4⟩)
    (c4 : PySem.W.codeIn K cd4 "Levels.__init__" = true)
    (k4 : PySem.W.keepIn K (.ref f4) = true)
    (a5 : PySem.W.nsIn K mainGlobals "_law_end" = some (some (.ref f5)))
    (l5 : K.lookup f5 = some ⟨oc5, od5, .func (PySem.W.fnOf "_law_end" "_law_end" (defArgs s_end) (defBody s_end) (defScope s_end) .none kV5 dc5 pm5 an5 cd5 ct5), sl5⟩)
    (c5 : PySem.W.codeIn K cd5 "_law_end" = true)
    (k5 : PySem.W.keepIn K (.ref f5) = true)
    (a6 : PySem.W.nsIn K mainGlobals "_law_span" = some (some (.ref f6)))
    (l6 : K.lookup f6 = some ⟨oc6, od6, .func (PySem.W.fnOf "_law_span" "_law_span" (defArgs s_span) (defBody s_span) (defScope s_span) .none kV6 dc6 pm6 an6 cd6 ct6), sl6⟩)
    (c6 : PySem.W.codeIn K cd6 "_law_span" = true)
    (k6 : PySem.W.keepIn K (.ref f6) = true)
    (a7 : PySem.W.findIn K (.ref C_Levels) "spans" = some (some (.ref f7)))
    (i7 : PySem.W.isFn K (.ref f7) = true)
    (l7 : K.lookup f7 = some ⟨oc7, od7, .func (PySem.W.fnOf "spans" "Levels.spans" (defArgs s_Levels_spans) (defBody s_Levels_spans) (defScope s_Levels_spans) .none kV7 dc7 pm7 an7 cd7 ct7), sl7⟩)
    (c7 : PySem.W.codeIn K cd7 "Levels.spans" = true)
    (k7 : PySem.W.keepIn K (.ref f7) = true)
    (a8 : PySem.W.nsIn K mainGlobals "is_whole" = some (some (.ref f8)))
    (l8 : K.lookup f8 = some ⟨oc8, od8, .func (PySem.W.fnOf "is_whole" "is_whole" (defArgs s_is_whole) (defBody s_is_whole) (defScope s_is_whole) .none kV8 dc8 pm8 an8 cd8 ct8), sl8⟩)
    (c8 : PySem.W.codeIn K cd8 "is_whole" = true)
    (k8 : PySem.W.keepIn K (.ref f8) = true)
    (a9 : PySem.W.nsIn K mainGlobals "is_count" = some (some (.ref f9)))
    (l9 : K.lookup f9 = some ⟨oc9, od9, .func (PySem.W.fnOf "is_count" "is_count" (defArgs s_is_count) (defBody s_is_count) (defScope s_is_count) .none kV9 dc9 pm9 an9 cd9 ct9), sl9⟩)
    (c9 : PySem.W.codeIn K cd9 "is_count" = true)
    (k9 : PySem.W.keepIn K (.ref f9) = true)
    (a10 : PySem.W.nsIn K mainGlobals "want_count" = some (some (.ref f10)))
    (l10 : K.lookup f10 = some ⟨oc10, od10, .func (PySem.W.fnOf "want_count" "want_count" (defArgs s_want_count) (defBody s_want_count) (defScope s_want_count) .none kV10 dc10 pm10 an10 cd10 ct10), sl10⟩)
    (c10 : PySem.W.codeIn K cd10 "want_count" = true)
    (k10 : PySem.W.keepIn K (.ref f10) = true)
    (a11 : PySem.W.findIn K (.ref C_Levels) "add_rise" = some (some (.ref f11)))
    (i11 : PySem.W.isFn K (.ref f11) = true)
    (l11 : K.lookup f11 = some ⟨oc11, od11, .func (PySem.W.fnOf "add_rise" "Levels.add_rise" (defArgs s_Levels_add_rise) (defBody s_Levels_add_rise) (defScope s_Levels_add_rise) .none kV11 dc11 pm11 an11 cd11 ct11), sl11⟩)
    (c11 : PySem.W.codeIn K cd11 "Levels.add_rise" = true)
    (k11 : PySem.W.keepIn K (.ref f11) = true)
    (a12 : PySem.W.findIn K (.ref C_Levels) "add_span" = some (some (.ref f12)))
    (i12 : PySem.W.isFn K (.ref f12) = true)
    (l12 : K.lookup f12 = some ⟨oc12, od12, .func (PySem.W.fnOf "add_span" "Levels.add_span" (defArgs s_Levels_add_span) (defBody s_Levels_add_span) (defScope s_Levels_add_span) .none kV12 dc12 pm12 an12 cd12 ct12), sl12⟩)
    (c12 : PySem.W.codeIn K cd12 "Levels.add_span" = true)
    (k12 : PySem.W.keepIn K (.ref f12) = true)
    (a13 : PySem.W.findIn K (.ref C_Levels) "put_span" = some (some (.ref f13)))
    (i13 : PySem.W.isFn K (.ref f13) = true)
    (l13 : K.lookup f13 = some ⟨oc13, od13, .func (PySem.W.fnOf "put_span" "Levels.put_span" (defArgs s_Levels_put_span) (defBody s_Levels_put_span) (defScope s_Levels_put_span) .none kV13 dc13 pm13 an13 cd13 ct13), sl13⟩)
    (c13 : PySem.W.codeIn K cd13 "Levels.put_span" = true)
    (k13 : PySem.W.keepIn K (.ref f13) = true)
    (a14 : PySem.W.nsIn K mainGlobals "_law_put" = some (some (.ref f14)))
    (l14 : K.lookup f14 = some ⟨oc14, od14, .func (PySem.W.fnOf "_law_put" "_law_put" (defArgs s_put) (defBody s_put) (defScope s_put) .none kV14 dc14 pm14 an14 cd14 ct14), sl14⟩)
    (c14 : PySem.W.codeIn K cd14 "_law_put" = true)
    (k14 : PySem.W.keepIn K (.ref f14) = true)
    (a15 : PySem.W.nsIn K mainGlobals "_law_levels" = some (some (.ref f15)))
    (l15 : K.lookup f15 = some ⟨oc15, od15, .func (PySem.W.fnOf "_law_levels" "_law_levels" (defArgs s_levels) (defBody s_levels) (defScope s_levels) .none kV15 dc15 pm15 an15 cd15 ct15), sl15⟩)
    (c15 : PySem.W.codeIn K cd15 "_law_levels" = true)
    (k15 : PySem.W.keepIn K (.ref f15) = true)
    (a16 : PySem.W.nsIn K mainGlobals "_law_crossed" = some (some (.ref f16)))
    (l16 : K.lookup f16 = some ⟨oc16, od16, .func (PySem.W.fnOf "_law_crossed" "_law_crossed" (defArgs s_crossed) (defBody s_crossed) (defScope s_crossed) .none kV16 dc16 pm16 an16 cd16 ct16), sl16⟩)
    (c16 : PySem.W.codeIn K cd16 "_law_crossed" = true)
    (k16 : PySem.W.keepIn K (.ref f16) = true)
    (a17 : PySem.W.findIn K (.ref C_Levels) "crossing" = some (some (.ref f17)))
    (i17 : PySem.W.isFn K (.ref f17) = true)
    (l17 : K.lookup f17 = some ⟨oc17, od17, .func (PySem.W.fnOf "crossing" "Levels.crossing" (defArgs s_Levels_crossing) (defBody s_Levels_crossing) (defScope s_Levels_crossing) .none kV17 dc17 pm17 an17 cd17 ct17), sl17⟩)
    (c17 : PySem.W.codeIn K cd17 "Levels.crossing" = true)
    (k17 : PySem.W.keepIn K (.ref f17) = true)
    (a18 : PySem.W.findIn K (.ref C_Levels) "__len__" = some (some (.ref f18)))
    (i18 : PySem.W.isFn K (.ref f18) = true)
    (l18 : K.lookup f18 = some ⟨oc18, od18, .func (PySem.W.fnOf "__len__" "Levels.__len__" (defArgs s_Levels___len__) (defBody s_Levels___len__) (defScope s_Levels___len__) .none kV18 dc18 pm18 an18 cd18 ct18), sl18⟩)
    (c18 : PySem.W.codeIn K cd18 "Levels.__len__" = true)
    (k18 : PySem.W.keepIn K (.ref f18) = true)
    (a19 : PySem.W.nsIn K mainGlobals "_law_told" = some (some (.ref f19)))
    (l19 : K.lookup f19 = some ⟨oc19, od19, .func (PySem.W.fnOf "_law_told" "_law_told" (defArgs s_told) (defBody s_told) (defScope s_told) .none kV19 dc19 pm19 an19 cd19 ct19), sl19⟩)
    (c19 : PySem.W.codeIn K cd19 "_law_told" = true)
    (k19 : PySem.W.keepIn K (.ref f19) = true)
    (a20 : PySem.W.nsIn K mainGlobals "law" = some (some (.ref f20)))
    (l20 : K.lookup f20 = some ⟨oc20, od20, .func (PySem.W.fnOf "law" "law" (defArgs s_law) (defBody s_law) (defScope s_law) .none kV20 dc20 pm20 an20 cd20 ct20), sl20⟩)
    (c20 : PySem.W.codeIn K cd20 "law" = true)
    (k20 : PySem.W.keepIn K (.ref f20) = true)
    (z_na_Levels_often : PySem.W.findIn K (.ref C_Levels) "often" = some none)
    (z_na_Levels_rises : PySem.W.findIn K (.ref C_Levels) "rises" = some none)
    (z_n_abs : PySem.W.nsIn K mainGlobals "abs" = some none)
    (z_n_all : PySem.W.nsIn K mainGlobals "all" = some none)
    (z_n_bool : PySem.W.nsIn K mainGlobals "bool" = some none)
    (z_n_divmod : PySem.W.nsIn K mainGlobals "divmod" = some none)
    (z_n_int : PySem.W.nsIn K mainGlobals "int" = some none)
    (z_n_isinstance : PySem.W.nsIn K mainGlobals "isinstance" = some none)
    (z_n_len : PySem.W.nsIn K mainGlobals "len" = some none)
    (z_n_list : PySem.W.nsIn K mainGlobals "list" = some none)
    (z_n_max : PySem.W.nsIn K mainGlobals "max" = some none)
    (z_n_min : PySem.W.nsIn K mainGlobals "min" = some none)
    (z_n_range : PySem.W.nsIn K mainGlobals "range" = some none)
    (z_n_repr : PySem.W.nsIn K mainGlobals "repr" = some none)
    (z_n_sorted : PySem.W.nsIn K mainGlobals "sorted" = some none)
    (z_n_sum : PySem.W.nsIn K mainGlobals "sum" = some none)
    (z_n_zip : PySem.W.nsIn K mainGlobals "zip" = some none)
    : ∃ fd : FuncData, (∀ (s : Shared) (v : Value), BindsTo s fd ⟨[v], []⟩ [("_law_script", v)]) ∧ ∀ base : Heap, K.In base → base.Ns mainGlobals mg → FnG l.prog w K mg base 6 fa fd ["_law_script"] sp_law := by
  have e := hfa.symm.trans (PySem.W.mg_of X G a20)
  cases e
  have T : Txt K mg C_Levels := ⟨⟨pg_Levels, hd_Levels, po_Levels, sa_Levels⟩, z_na_Levels_often, z_na_Levels_rises, PySem.W.mg_none_of X G z_n_abs, PySem.W.mg_none_of X G z_n_all, PySem.W.mg_none_of X G z_n_bool, PySem.W.mg_none_of X G z_n_divmod, PySem.W.mg_none_of X G z_n_int, PySem.W.mg_none_of X G z_n_isinstance, PySem.W.mg_none_of X G z_n_len, PySem.W.mg_none_of X G z_n_list, PySem.W.mg_none_of X G z_n_max, PySem.W.mg_none_of X G z_n_min, PySem.W.mg_none_of X G z_n_range, PySem.W.mg_none_of X G z_n_repr, PySem.W.mg_none_of X G z_n_sorted, PySem.W.mg_none_of X G z_n_sum, PySem.W.mg_none_of X G z_n_zip⟩
  have F0 := fun_mk (st := s_at) l0 c0 k0
  have d_at : Def0 K mg "_law_at" s_at := ⟨_, _, F0, PySem.W.mg_of X G a0⟩
  have F1 := fun_mk (st := s_pot) l1 c1 k1
  have d_pot : Def0 K mg "_law_pot" s_pot := ⟨_, _, F1, PySem.W.mg_of X G a1⟩
  have F2 := fun_mk (st := s_draw) l2 c2 k2
  have d_draw : Def0 K mg "_law_draw" s_draw := ⟨_, _, F2, PySem.W.mg_of X G a2⟩
  have F3 := fun_mk (st := s_far) l3 c3 k3
  have d_far : Def0 K mg "_law_far" s_far := ⟨_, _, F3, PySem.W.mg_of X G a3⟩
  have F4 := fun_mk (st := s_Levels___init__) l4 c4 k4
  have d_Levels___init__ : ∃ (f : Addr) (fd : FuncData), Fun K "__init__" "Levels.__init__" s_Levels___init__ f fd ∧ Mk K C_Levels f ∧ mg "Levels" = some (.ref C_Levels) := ⟨_, _, F4, ⟨mk_Levels, a4, i4, kc_Levels⟩, PySem.W.mg_of X G aC_Levels⟩
  have F5 := fun_mk (st := s_end) l5 c5 k5
  have d_end : Def0 K mg "_law_end" s_end := ⟨_, _, F5, PySem.W.mg_of X G a5⟩
  have F6 := fun_mk (st := s_span) l6 c6 k6
  have d_span : Def0 K mg "_law_span" s_span := ⟨_, _, F6, PySem.W.mg_of X G a6⟩
  have F7 := fun_mk (st := s_Levels_spans) l7 c7 k7
  have d_Levels_spans : Met0 K C_Levels "spans" "Levels.spans" s_Levels_spans := ⟨_, _, F7, ⟨a7, i7, k7⟩⟩
  have F8 := fun_mk (st := s_is_whole) l8 c8 k8
  have d_is_whole : Def0 K mg "is_whole" s_is_whole := ⟨_, _, F8, PySem.W.mg_of X G a8⟩
  have F9 := fun_mk (st := s_is_count) l9 c9 k9
  have d_is_count : Def0 K mg "is_count" s_is_count := ⟨_, _, F9, PySem.W.mg_of X G a9⟩
  have F10 := fun_mk (st := s_want_count) l10 c10 k10
  have d_want_count : Def0 K mg "want_count" s_want_count := ⟨_, _, F10, PySem.W.mg_of X G a10⟩
  have F11 := fun_mk (st := s_Levels_add_rise) l11 c11 k11
  have d_Levels_add_rise : Met0 K C_Levels "add_rise" "Levels.add_rise" s_Levels_add_rise := ⟨_, _, F11, ⟨a11, i11, k11⟩⟩
  have F12 := fun_mk (st := s_Levels_add_span) l12 c12 k12
  have d_Levels_add_span : Met0 K C_Levels "add_span" "Levels.add_span" s_Levels_add_span := ⟨_, _, F12, ⟨a12, i12, k12⟩⟩
  have F13 := fun_mk (st := s_Levels_put_span) l13 c13 k13
  have d_Levels_put_span : Met0 K C_Levels "put_span" "Levels.put_span" s_Levels_put_span := ⟨_, _, F13, ⟨a13, i13, k13⟩⟩
  have F14 := fun_mk (st := s_put) l14 c14 k14
  have d_put : Def0 K mg "_law_put" s_put := ⟨_, _, F14, PySem.W.mg_of X G a14⟩
  have F15 := fun_mk (st := s_levels) l15 c15 k15
  have d_levels : Def0 K mg "_law_levels" s_levels := ⟨_, _, F15, PySem.W.mg_of X G a15⟩
  have F16 := fun_mk (st := s_crossed) l16 c16 k16
  have d_crossed : Def0 K mg "_law_crossed" s_crossed := ⟨_, _, F16, PySem.W.mg_of X G a16⟩
  have F17 := fun_mk (st := s_Levels_crossing) l17 c17 k17
  have d_Levels_crossing : Met0 K C_Levels "crossing" "Levels.crossing" s_Levels_crossing := ⟨_, _, F17, ⟨a17, i17, k17⟩⟩
  have F18 := fun_mk (st := s_Levels___len__) l18 c18 k18
  have d_Levels___len__ : Met0 K C_Levels "__len__" "Levels.__len__" s_Levels___len__ := ⟨_, _, F18, ⟨a18, i18, k18⟩⟩
  have F19 := fun_mk (st := s_told) l19 c19 k19
  have d_told : Def0 K mg "_law_told" s_told := ⟨_, _, F19, PySem.W.mg_of X G a19⟩
  have F20 := fun_mk (st := s_law) l20 c20 k20
  have d_law : Def0 K mg "law" s_law := ⟨_, _, F20, PySem.W.mg_of X G a20⟩
  refine ⟨PySem.W.fnOf "law" "law" (defArgs s_law) (defBody s_law) (defScope s_law) .none kV20 dc20 pm20 an20 cd20 ct20, fun s v => .of_eq rfl, fun base _ _ => ?_⟩
  have c_at : CalD l.prog w K mg base 1 "_law_at" s_at ["_law_script", "_law_k"] sp_at := g_at T d_at 
  have c_pot : CalD l.prog w K mg base 2 "_law_pot" s_pot ["_law_script", "_law_k"] sp_pot := g_pot T d_pot c_at
  have c_draw : CalD l.prog w K mg base 1 "_law_draw" s_draw ["_law_pot_here", "_law_many"] sp_draw := g_draw T d_draw 
  have c_far : CalD l.prog w K mg base 2 "_law_far" s_far ["_law_pot_here"] sp_far := g_far T d_far c_draw
  have c_Levels___init__ : MakD l.prog w K mg base 1 "Levels" C_Levels "Levels.__init__" s_Levels___init__ ["self"] (sp_Levels___init__ C_Levels) := g_Levels___init__ T d_Levels___init__ 
  have c_end : CalD l.prog w K mg base 2 "_law_end" s_end ["_law_pot_here", "_law_far_here"] sp_end := g_end T d_end c_draw
  have c_span : CalD l.prog w K mg base 3 "_law_span" s_span ["_law_pot_here", "_law_far_here"] sp_span := g_span T d_span c_end c_draw
  have c_Levels_spans : MetD l.prog w K mg base 1 C_Levels "spans" "Levels.spans" s_Levels_spans ["self"] (sp_Levels_spans C_Levels) := g_Levels_spans T d_Levels_spans 
  have c_is_whole : CalD l.prog w K mg base 1 "is_whole" s_is_whole ["thing"] sp_is_whole := g_is_whole T d_is_whole 
  have c_is_count : CalD l.prog w K mg base 2 "is_count" s_is_count ["thing"] sp_is_count := g_is_count T d_is_count c_is_whole
  have c_want_count : CalD l.prog w K mg base 3 "want_count" s_want_count ["level"] sp_want_count := g_want_count T d_want_count c_is_count
  have c_Levels_add_rise : MetD l.prog w K mg base 1 C_Levels "add_rise" "Levels.add_rise" s_Levels_add_rise ["self", "level", "more"] (sp_Levels_add_rise C_Levels) := g_Levels_add_rise T d_Levels_add_rise 
  have c_Levels_add_span : MetD l.prog w K mg base 2 C_Levels "add_span" "Levels.add_span" s_Levels_add_span ["self", "low", "high", "more"] (sp_Levels_add_span C_Levels) := g_Levels_add_span T d_Levels_add_span c_Levels_add_rise
  have c_Levels_put_span : MetD l.prog w K mg base 4 C_Levels "put_span" "Levels.put_span" s_Levels_put_span ["self", "low", "high"] (sp_Levels_put_span C_Levels) := g_Levels_put_span T d_Levels_put_span c_want_count c_Levels_add_span
  have c_put : CalD l.prog w K mg base 5 "_law_put" s_put ["_law_table", "_law_span_here", "_law_named"] (sp_put C_Levels) := g_put T d_put c_Levels_put_span
  have c_levels : CalD l.prog w K mg base 2 "_law_levels" s_levels ["_law_pot_here", "_law_some"] sp_levels := g_levels T d_levels c_draw
  have c_crossed : CalD l.prog w K mg base 1 "_law_crossed" s_crossed ["_law_some", "_law_mark"] sp_crossed := g_crossed T d_crossed 
  have c_Levels_crossing : MetD l.prog w K mg base 4 C_Levels "crossing" "Levels.crossing" s_Levels_crossing ["self", "level"] (sp_Levels_crossing C_Levels) := g_Levels_crossing T d_Levels_crossing c_want_count
  have c_Levels___len__ : MetD l.prog w K mg base 2 C_Levels "__len__" "Levels.__len__" s_Levels___len__ ["self"] (sp_Levels___len__ C_Levels) := g_Levels___len__ T d_Levels___len__ c_Levels_spans
  have c_told : CalD l.prog w K mg base 5 "_law_told" s_told ["_law_pot_here", "_law_table", "_law_some"] (sp_told C_Levels) := g_told T d_told c_levels c_crossed c_Levels_crossing c_Levels_spans c_Levels___len__
  have c_law : CalD l.prog w K mg base 6 "law" s_law ["_law_script"] sp_law := g_law T d_law c_pot c_far c_Levels___init__ c_draw c_span c_Levels_spans c_put c_told
  exact c_law.fn (PySem.W.mg_of X G a20) l20
end Dl.M
open PySem PySem.W PyProof.Rows
set_option maxRecDepth 100000 in
set_option maxHeartbeats 0 in
theorem PySem.Challenge.cw_deepfall_k41_spans_and_crossings_holds : PySem.Challenge.rw_deepfall_k41_spans_and_crossings.Holds := by
  w_on; o_law; k_head; (case hw => w_witness2)
  k_fill
  refine Dl.walk_G (l := PySem.Challenge.rw_deepfall_k41_spans_and_crossings) (n := 63) (k := 6) (x := "_law_script") (sp := Dl.M.sp_law) rfl (by decide) rfl ⟨rfl, by decide, by decide⟩ (fun w h Y => PySem.W.kIn_of Y) ?nl ?F (fun a ns h => Dl.M.law_end a ns h)
  case nl => intro p; rfl
  case F =>
    intro w mg fa h KX G hmg
    refine' Dl.M.all_mk KX G hmg ?aC_Levels ?pg_Levels ?hd_Levels ?po_Levels ?sa_Levels ?mk_Levels ?kc_Levels ?a0 ?l0 ?c0 ?k0 ?a1 ?l1 ?c1 ?k1 ?a2 ?l2 ?c2 ?k2 ?a3 ?l3 ?c3 ?k3 ?a4 ?i4 ?l4 ?c4 ?k4 ?a5 ?l5 ?c5 ?k5 ?a6 ?l6 ?c6 ?k6 ?a7 ?i7 ?l7 ?c7 ?k7 ?a8 ?l8 ?c8 ?k8 ?a9 ?l9 ?c9 ?k9 ?a10 ?l10 ?c10 ?k10 ?a11 ?i11 ?l11 ?c11 ?k11 ?a12 ?i12 ?l12 ?c12 ?k12 ?a13 ?i13 ?l13 ?c13 ?k13 ?a14 ?l14 ?c14 ?k14 ?a15 ?l15 ?c15 ?k15 ?a16 ?l16 ?c16 ?k16 ?a17 ?i17 ?l17 ?c17 ?k17 ?a18 ?i18 ?l18 ?c18 ?k18 ?a19 ?l19 ?c19 ?k19 ?a20 ?l20 ?c20 ?k20 ?z_na_Levels_often ?z_na_Levels_rises ?z_n_abs ?z_n_all ?z_n_bool ?z_n_divmod ?z_n_int ?z_n_isinstance ?z_n_len ?z_n_list ?z_n_max ?z_n_min ?z_n_range ?z_n_repr ?z_n_sorted ?z_n_sum ?z_n_zip
    (case aC_Levels => k_is)
    (case pg_Levels => k_is)
    (case hd_Levels => k_is)
    (case po_Levels => k_is)
    (case sa_Levels => k_is)
    (case mk_Levels => k_is)
    (case kc_Levels => k_is)
    (case a0 => k_is)
    (case l0 => k_is)
    (case c0 => k_is)
    (case k0 => k_is)
    (case a1 => k_is)
    (case l1 => k_is)
    (case c1 => k_is)
    (case k1 => k_is)
    (case a2 => k_is)
    (case l2 => k_is)
    (case c2 => k_is)
    (case k2 => k_is)
    (case a3 => k_is)
    (case l3 => k_is)
    (case c3 => k_is)
    (case k3 => k_is)
    (case a4 => k_is)
    (case i4 => k_is)
    (case l4 => k_is)
    (case c4 => k_is)
    (case k4 => k_is)
    (case a5 => k_is)
    (case l5 => k_is)
    (case c5 => k_is)
    (case k5 => k_is)
    (case a6 => k_is)
    (case l6 => k_is)
    (case c6 => k_is)
    (case k6 => k_is)
    (case a7 => k_is)
    (case i7 => k_is)
    (case l7 => k_is)
    (case c7 => k_is)
    (case k7 => k_is)
    (case a8 => k_is)
    (case l8 => k_is)
    (case c8 => k_is)
    (case k8 => k_is)
    (case a9 => k_is)
    (case l9 => k_is)
    (case c9 => k_is)
    (case k9 => k_is)
    (case a10 => k_is)
    (case l10 => k_is)
    (case c10 => k_is)
    (case k10 => k_is)
    (case a11 => k_is)
    (case i11 => k_is)
    (case l11 => k_is)
    (case c11 => k_is)
    (case k11 => k_is)
    (case a12 => k_is)
    (case i12 => k_is)
    (case l12 => k_is)
    (case c12 => k_is)
    (case k12 => k_is)
    (case a13 => k_is)
    (case i13 => k_is)
    (case l13 => k_is)
    (case c13 => k_is)
    (case k13 => k_is)
    (case a14 => k_is)
    (case l14 => k_is)
    (case c14 => k_is)
    (case k14 => k_is)
    (case a15 => k_is)
    (case l15 => k_is)
    (case c15 => k_is)
    (case k15 => k_is)
    (case a16 => k_is)
    (case l16 => k_is)
    (case c16 => k_is)
    (case k16 => k_is)
    (case a17 => k_is)
    (case i17 => k_is)
    (case l17 => k_is)
    (case c17 => k_is)
    (case k17 => k_is)
    (case a18 => k_is)
    (case i18 => k_is)
    (case l18 => k_is)
    (case c18 => k_is)
    (case k18 => k_is)
    (case a19 => k_is)
    (case l19 => k_is)
    (case c19 => k_is)
    (case k19 => k_is)
    (case a20 => k_is)
    (case l20 => k_is)
    (case c20 => k_is)
    (case k20 => k_is)
    (case z_na_Levels_often => k_is)
    (case z_na_Levels_rises => k_is)
    (case z_n_abs => k_is)
    (case z_n_all => k_is)
    (case z_n_bool => k_is)
    (case z_n_divmod => k_is)
    (case z_n_int => k_is)
    (case z_n_isinstance => k_is)
    (case z_n_len => k_is)
    (case z_n_list => k_is)
    (case z_n_max => k_is)
    (case z_n_min => k_is)
    (case z_n_range => k_is)
    (case z_n_repr => k_is)
    (case z_n_sorted => k_is)
    (case z_n_sum => k_is)
    (case z_n_zip => k_is)
